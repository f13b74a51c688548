import PyProof.Rows.All
import Wide.All
import OpenK.AllK
import Wide.FinOn
import HandS.ForMost
import HandS.Exc
import HandS.TryOnly
import HandS.ExcOwn
import HandS.WordsExc
import HandS.Wide
import HandS.WideBits
import HandS.EndBits
import HandS.IsInst
import HandS.TupAny
import HandS.Style
import HandS.RevRange
import HandS.Deep
import HandS.Strs
import HandS.Conv
import HandS.Flow
import HandS.DeepEq
import KE.KeyNested
import HandS.ExcInit
import HandS.ExcIs
import HandS.ExcField
import KE.KExcIs
import HandS.Iter
import HandS.TupMul
import HandS.Zip
import HandS.Defaults
import HandS.CallSlots
import KE.KDictSum
import KE.SortData
import HandS.ExcValue
import PySem.Challenge.RW_graftform_k21_books_made
set_option Elab.async false
set_option linter.all false
set_option maxRecDepth 100000
set_option maxHeartbeats 4000000
/-! Mir: each def of the program as a Lean function over plain values (tuples by value, lists, dicts, instances in a heap of their own, numbered), and the proof that the def does what the function says. -/
namespace Mi
open PySem L2

inductive D where
  | non | bl (b : Bool) | int (i : Int) | str (x : Str) | tup (l : List D) | ref (i : Nat) | xo (c f : Str) (v : D)
mutual
def D.dec : (a b : D) → Decidable (a = b)
  | .non, .non => .isTrue rfl
  | .non, .bl _ => .isFalse (fun e => nomatch e)
  | .non, .int _ => .isFalse (fun e => nomatch e)
  | .non, .str _ => .isFalse (fun e => nomatch e)
  | .non, .tup _ => .isFalse (fun e => nomatch e)
  | .non, .ref _ => .isFalse (fun e => nomatch e)
  | .bl _, .non => .isFalse (fun e => nomatch e)
  | .bl a, .bl b => if h : a = b then .isTrue (by rw [h]) else .isFalse (fun e => h (D.bl.inj e))
  | .bl _, .int _ => .isFalse (fun e => nomatch e)
  | .bl _, .str _ => .isFalse (fun e => nomatch e)
  | .bl _, .tup _ => .isFalse (fun e => nomatch e)
  | .bl _, .ref _ => .isFalse (fun e => nomatch e)
  | .int _, .non => .isFalse (fun e => nomatch e)
  | .int _, .bl _ => .isFalse (fun e => nomatch e)
  | .int a, .int b => if h : a = b then .isTrue (by rw [h]) else .isFalse (fun e => h (D.int.inj e))
  | .int _, .str _ => .isFalse (fun e => nomatch e)
  | .int _, .tup _ => .isFalse (fun e => nomatch e)
  | .int _, .ref _ => .isFalse (fun e => nomatch e)
  | .str _, .non => .isFalse (fun e => nomatch e)
  | .str _, .bl _ => .isFalse (fun e => nomatch e)
  | .str _, .int _ => .isFalse (fun e => nomatch e)
  | .str a, .str b => if h : a = b then .isTrue (by rw [h]) else .isFalse (fun e => h (D.str.inj e))
  | .str _, .tup _ => .isFalse (fun e => nomatch e)
  | .str _, .ref _ => .isFalse (fun e => nomatch e)
  | .tup _, .non => .isFalse (fun e => nomatch e)
  | .tup _, .bl _ => .isFalse (fun e => nomatch e)
  | .tup _, .int _ => .isFalse (fun e => nomatch e)
  | .tup _, .str _ => .isFalse (fun e => nomatch e)
  | .tup a, .tup b => match D.decs a b with
    | .isTrue h => .isTrue (by rw [h])
    | .isFalse h => .isFalse (fun e => h (D.tup.inj e))
  | .tup _, .ref _ => .isFalse (fun e => nomatch e)
  | .ref _, .non => .isFalse (fun e => nomatch e)
  | .ref _, .bl _ => .isFalse (fun e => nomatch e)
  | .ref _, .int _ => .isFalse (fun e => nomatch e)
  | .ref _, .str _ => .isFalse (fun e => nomatch e)
  | .ref _, .tup _ => .isFalse (fun e => nomatch e)
  | .ref a, .ref b => if h : a = b then .isTrue (by rw [h]) else .isFalse (fun e => h (D.ref.inj e))
  | .non, .xo _ _ _ => .isFalse (fun e => nomatch e)
  | .xo _ _ _, .non => .isFalse (fun e => nomatch e)
  | .bl _, .xo _ _ _ => .isFalse (fun e => nomatch e)
  | .xo _ _ _, .bl _ => .isFalse (fun e => nomatch e)
  | .int _, .xo _ _ _ => .isFalse (fun e => nomatch e)
  | .xo _ _ _, .int _ => .isFalse (fun e => nomatch e)
  | .str _, .xo _ _ _ => .isFalse (fun e => nomatch e)
  | .xo _ _ _, .str _ => .isFalse (fun e => nomatch e)
  | .tup _, .xo _ _ _ => .isFalse (fun e => nomatch e)
  | .xo _ _ _, .tup _ => .isFalse (fun e => nomatch e)
  | .ref _, .xo _ _ _ => .isFalse (fun e => nomatch e)
  | .xo _ _ _, .ref _ => .isFalse (fun e => nomatch e)
  | .xo c f v, .xo c' f' v' => match D.dec v v' with
    | .isTrue h => if k : c = c' ∧ f = f' then .isTrue (by rw [h, k.1, k.2]) else .isFalse (fun e => by cases e; exact k ⟨rfl, rfl⟩)
    | .isFalse h => .isFalse (fun e => by cases e; exact h rfl)
def D.decs : (a b : List D) → Decidable (a = b)
  | [], [] => .isTrue rfl
  | [], _ :: _ => .isFalse (fun e => nomatch e)
  | _ :: _, [] => .isFalse (fun e => nomatch e)
  | a :: r, b :: s => match D.dec a b, D.decs r s with
    | .isTrue h, .isTrue k => .isTrue (by rw [h, k])
    | .isFalse h, _ => .isFalse (fun e => h (List.cons.inj e).1)
    | _, .isFalse k => .isFalse (fun e => k (List.cons.inj e).2)
end
instance : DecidableEq D := D.dec

inductive MO where
  | lst (l : List D) | rol (l : List D) | dK (kvs : List (Key × D)) | ins (c : Str) (fs : List (Str × D)) | dN (kvs : List (NestedKey × D))
deriving DecidableEq

abbrev MH := List MO
abbrev Slots := List (Option D)

inductive R (α : Type) where
  | ok (a : α) (h : MH) | exc (x : Str) (fs : List (Str × D)) (h : MH) | bad

def R.bind {α β : Type} (r : R α) (f : α → MH → R β) : R β := match r with
  | .ok a h => f a h
  | .exc x fs h => .exc x fs h
  | .bad => .bad
theorem R.bind_ok {α β : Type} (a : α) (h : MH) (f : α → MH → R β) : (R.ok a h).bind f = f a h := rfl
theorem R.bind_exc {α β : Type} (x : Str) (fs : List (Str × D)) (h : MH) (f : α → MH → R β) : (R.exc x fs h : R α).bind f = .exc x fs h := rfl
theorem R.bind_bad {α β : Type} (f : α → MH → R β) : (R.bad : R α).bind f = .bad := rfl

/-- the written part, the classes by name -/
structure G where
  K : PySem.W.Frag
  cm : Str → Option Addr
  w : World

/-! ### values and the heap -/
/-- a tuple that is known to the object: it has no dict of its own -/
def Tk (K : PySem.W.Frag) (H : Hp) (p : Addr) (xs : List V) : Prop :=
  (∃ ob : Obj, ob.dict = none ∧ H p = some (.frz ob (.tup xs))) ∨ ∃ (ob : Obj) (ws : Array Value) (n : Nat), K.lookup p = some ob ∧ ob.cls = .type "tuple" ∧ ob.dict = none ∧ ob.data = .seq ws n ∧ ws.size ≤ sizeLine ∧ Vals xs ws.toList
theorem Tk.sq {K : PySem.W.Frag} {H : Hp} {p : Addr} {xs : List V} (h : Tk K H p xs) : SqT K H p xs := by
  rcases h with ⟨ob, _, h⟩ | ⟨ob, ws, n, h1, h2, _, h3⟩
  · exact .inl (.inr ⟨ob, h⟩)
  · exact .inr ⟨ob, ws, n, h1, h2, h3⟩
/-- an exception that is kept: its class, its dict -/
def XOk (C : Addr) (d : Option Addr) (a : Addr) : HO := .ext fun h => ∃ (oe : Obj) (vs : Array Value), h.get? a = some oe ∧ Zc (.ref C) d oe ∧ oe.data = .fields vs
def isX (p : Addr) (u : HO) : Prop := (∃ C d, u = XOk C d p) ∨ ∃ fs, u = .xd fs
mutual
inductive VR (g : G) (H : Hp) (μ : List Addr) : V → D → Prop
  | non : VR g H μ .non .non
  | bl (b : Bool) : VR g H μ (.bl b) (.bl b)
  | int (i : Int) : VR g H μ (.int i) (.int i)
  | str (x : Str) : VR g H μ (.str x) (.str x)
  | ref {p : Addr} {i : Nat} : μ[i]? = some p → VR g H μ (.ref p) (.ref i)
  | tup {p : Addr} {xs : List V} {ds : List D} : Tk g.K H p xs → VRs g H μ xs ds → VR g H μ (.ref p) (.tup ds)
  | xo {p C : Addr} {d : Option Addr} {c f : Str} {v : V} {dv : D} : H p = some (XOk C d p) → g.cm c = some C → ((f = Str.ofString "" ∧ d = none) ∨ ∃ dd fv, d = some dd ∧ H dd = some (.xd fv) ∧ fv.lookup f = some v) → VR g H μ v dv → VR g H μ (.ref p) (.xo c f dv)
inductive VRs (g : G) (H : Hp) (μ : List Addr) : List V → List D → Prop
  | nil : VRs g H μ [] []
  | cons {v : V} {d : D} {vs : List V} {ds : List D} : VR g H μ v d → VRs g H μ vs ds → VRs g H μ (v :: vs) (d :: ds)
end
mutual
/-- a thing as a key -/
def nkD : D → Option NestedKey
  | .non => some .none
  | .bl b => some (.num (if b = true then 1 else 0))
  | .int i => some (.num i)
  | .str x => some (.text x)
  | .tup l => (nkDs l).map NestedKey.tup
  | .ref _ => none
  | .xo _ _ _ => none
def nkDs : List D → Option (List NestedKey)
  | [] => some []
  | d :: l => match nkD d, nkDs l with
    | some k, some ks => some (k :: ks)
    | _, _ => none
end
/-- a dict whose keys are tuples -/
def DN (w : World) (a : Addr) (xs : List (NestedKey × Addr × Value)) : HO := .ext fun h => xs.length ≤ sizeLine ∧ (a == sysModules) = false ∧ ∃ o es ep, h.get? a = some o ∧ o.ExactDict ∧ o.data = .dict es ep ∧ es.toList = xs.map (fun x => ⟨x.1.hash w, .ref x.2.1, x.2.2⟩) ∧ (xs.map (·.1)).Nodup
inductive NR (g : G) (H : Hp) (μ : List Addr) : List (NestedKey × Addr × Value) → List (NestedKey × D) → Prop
  | nil : NR g H μ [] []
  | cons {k : NestedKey} {a : Addr} {u : Value} {e d : D} {v : V} {xs : List (NestedKey × Addr × Value)} {ds : List (NestedKey × D)} : VR g H μ (.ref a) e → nkD e = some k → k.depth ≤ 8 → RelV v u → VR g H μ v d → NR g H μ xs ds → NR g H μ ((k, a, u) :: xs) ((k, d) :: ds)
inductive KR {κ : Type} (g : G) (H : Hp) (μ : List Addr) : List (κ × V) → List (κ × D) → Prop
  | nil : KR g H μ [] []
  | cons {k : κ} {v : V} {d : D} {vs : List (κ × V)} {ds : List (κ × D)} : VR g H μ v d → KR g H μ vs ds → KR g H μ ((k, v) :: vs) ((k, d) :: ds)
inductive SR (g : G) (H : Hp) (μ : List Addr) : List (Option V) → Slots → Prop
  | nil : SR g H μ [] []
  | no {o : Option V} {σ : List (Option V)} {ρ : Slots} : SR g H μ σ ρ → SR g H μ (o :: σ) (none :: ρ)
  | yes {v : V} {d : D} {σ : List (Option V)} {ρ : Slots} : VR g H μ v d → SR g H μ σ ρ → SR g H μ (some v :: σ) (some d :: ρ)

/-- a list that is only read -/
def Lk (K : PySem.W.Frag) (H : Hp) (a : Addr) (xs : List V) : Prop :=
  (∃ o, H a = some (.frz o (.lst xs))) ∨ ∃ (o : Obj) (its : Array Value) (n : Nat), K.lookup a = some o ∧ o.cls = .type "list" ∧ o.dict = none ∧ o.data = .seq its n ∧ its.size ≤ sizeLine ∧ Vals xs its.toList
theorem Lk.sq {K : PySem.W.Frag} {H : Hp} {a : Addr} {xs : List V} (h : Lk K H a xs) : SqL K H a xs := by
  rcases h with ⟨o, h⟩ | h
  · exact .inl (.inr ⟨o, h⟩)
  · exact .inr h

def OR (g : G) (H : Hp) (μ : List Addr) (p : Addr) : MO → Prop
  | .lst ds => ∃ xs, H p = some (.lst xs) ∧ VRs g H μ xs ds
  | .rol ds => ∃ xs, Lk g.K H p xs ∧ VRs g H μ xs ds
  | .dK kvs => ∃ kv, H p = some (.dK kv) ∧ KR g H μ kv kvs
  | .ins c fs => ∃ C dx fv, H p = some (.ins C dx fv) ∧ g.cm c = some C ∧ KR g H μ fv fs
  | .dN kvs => ∃ xs, H p = some (DN g.w p xs) ∧ NR g H μ xs kvs
def isMut : MO → Bool
  | .rol _ => false
  | _ => true
structure HR (g : G) (H : Hp) (μ : List Addr) (h : MH) : Prop where
  len : μ.length = h.length
  ob : ∀ (i : Nat) (p : Addr) (o : MO), μ[i]? = some p → h[i]? = some o → OR g H μ p o
  nd : ∀ (i j : Nat) (p : Addr) (o u : MO), μ[i]? = some p → μ[j]? = some p → h[i]? = some o → h[j]? = some u → isMut o = true → isMut u = true → i = j

/-- what stands stands on: the tuples, the numbering -/
structure Mon (g : G) (H H' : Hp) (μ μ' : List Addr) : Prop where
  pre : μ <+: μ'
  tups : ∀ p xs, Tk g.K H p xs → Tk g.K H' p xs
  xs : ∀ p u, isX p u → H p = some u → H' p = some u
section
variable {g : G} {H H1 H2 : Hp} {μ μ1 μ2 : List Addr}
theorem Mon.refl : Mon g H H μ μ := ⟨List.prefix_rfl, fun _ _ h => h, fun _ _ _ h => h⟩
theorem Mon.trans (a : Mon g H H1 μ μ1) (b : Mon g H1 H2 μ1 μ2) : Mon g H H2 μ μ2 := ⟨a.pre.trans b.pre, fun p xs h => b.tups p xs (a.tups p xs h), fun p u x h => b.xs p u x (a.xs p u x h)⟩
theorem Mon.ix (m : Mon g H H1 μ μ1) {i : Nat} {p : Addr} (h : μ[i]? = some p) : μ1[i]? = some p := by
  obtain ⟨t, rfl⟩ := m.pre
  rw [List.getElem?_append_left (List.getElem?_eq_some_iff.mp h).1]
  exact h
mutual
theorem VR.mono (m : Mon g H H1 μ μ1) : ∀ {v : V} {d : D}, VR g H μ v d → VR g H1 μ1 v d
  | _, _, .non => .non
  | _, _, .bl b => .bl b
  | _, _, .int i => .int i
  | _, _, .str x => .str x
  | _, _, .ref h => .ref (m.ix h)
  | _, _, .tup h hs => .tup (m.tups _ _ h) (VRs.mono m hs)
  | _, _, .xo h c f v => .xo (m.xs _ _ (.inl ⟨_, _, rfl⟩) h) c (by
      rcases f with f | ⟨dd, fv, e1, e2, e3⟩
      · exact .inl f
      · exact .inr ⟨dd, fv, e1, m.xs _ _ (.inr ⟨_, rfl⟩) e2, e3⟩) (VR.mono m v)
theorem VRs.mono (m : Mon g H H1 μ μ1) : ∀ {vs : List V} {ds : List D}, VRs g H μ vs ds → VRs g H1 μ1 vs ds
  | _, _, .nil => .nil
  | _, _, .cons a b => .cons (VR.mono m a) (VRs.mono m b)
end
theorem KR.mono {κ : Type} (m : Mon g H H1 μ μ1) : ∀ {vs : List (κ × V)} {ds : List (κ × D)}, KR g H μ vs ds → KR g H1 μ1 vs ds
  | _, _, .nil => .nil
  | _, _, .cons a b => .cons (a.mono m) (KR.mono m b)
theorem NR.mono (m : Mon g H H1 μ μ1) : ∀ {xs : List (NestedKey × Addr × Value)} {ds : List (NestedKey × D)}, NR g H μ xs ds → NR g H1 μ1 xs ds
  | _, _, .nil => .nil
  | _, _, .cons a e l r v b => .cons (a.mono m) e l r (v.mono m) (NR.mono m b)
theorem SR.mono (m : Mon g H H1 μ μ1) : ∀ {σ : List (Option V)} {ρ : Slots}, SR g H μ σ ρ → SR g H1 μ1 σ ρ
  | _, _, .nil => .nil
  | _, _, .no b => .no (SR.mono m b)
  | _, _, .yes a b => .yes (a.mono m) (SR.mono m b)
theorem VRs.length : ∀ {vs : List V} {ds : List D}, VRs g H μ vs ds → vs.length = ds.length
  | _, _, .nil => rfl
  | _, _, .cons _ b => by rw [List.length_cons, List.length_cons, VRs.length b]
theorem VRs.get : ∀ {vs : List V} {ds : List D} {i : Nat} {d : D}, VRs g H μ vs ds → ds[i]? = some d → ∃ v, vs[i]? = some v ∧ VR g H μ v d
  | _, _, _, _, .nil, e => by simp at e
  | _, _, 0, _, .cons a _, e => by
    simp only [List.getElem?_cons_zero, Option.some.injEq] at e
    subst e
    exact ⟨_, rfl, a⟩
  | _, _, i + 1, _, .cons _ b, e => by
    obtain ⟨v, h1, h2⟩ := VRs.get (i := i) b (by simpa using e)
    exact ⟨v, by simpa using h1, h2⟩
theorem VRs.getV : ∀ {vs : List V} {ds : List D} {i : Nat} {v : V}, VRs g H μ vs ds → vs[i]? = some v → ∃ d, ds[i]? = some d ∧ VR g H μ v d
  | _, _, _, _, .nil, e => by simp at e
  | _, _, 0, _, .cons a _, e => by
    simp only [List.getElem?_cons_zero, Option.some.injEq] at e
    subst e
    exact ⟨_, rfl, a⟩
  | _, _, i + 1, _, .cons _ b, e => by
    obtain ⟨v, h1, h2⟩ := VRs.getV (i := i) b (by simpa using e)
    exact ⟨v, by simpa using h1, h2⟩
theorem VRs.append : ∀ {vs ws : List V} {ds es : List D}, VRs g H μ vs ds → VRs g H μ ws es → VRs g H μ (vs ++ ws) (ds ++ es)
  | _, _, _, _, .nil, h => h
  | _, _, _, _, .cons a b, h => .cons a (VRs.append b h)
theorem VRs.take (n : Nat) : ∀ {vs : List V} {ds : List D}, VRs g H μ vs ds → VRs g H μ (vs.take n) (ds.take n) := by
  induction n with
  | zero => intro vs ds _; simp only [List.take_zero]; exact .nil
  | succ n ih =>
    intro vs ds h
    cases h with
    | nil => simp only [List.take_nil]; exact .nil
    | cons a b => simp only [List.take_succ_cons]; exact .cons a (ih b)
theorem VRs.drop (n : Nat) : ∀ {vs : List V} {ds : List D}, VRs g H μ vs ds → VRs g H μ (vs.drop n) (ds.drop n) := by
  induction n with
  | zero => intro vs ds h; exact h
  | succ n ih =>
    intro vs ds h
    cases h with
    | nil => simp only [List.drop_nil]; exact .nil
    | cons a b => simp only [List.drop_succ_cons]; exact ih b
theorem VRs.set (i : Nat) {v : V} {d : D} (r : VR g H μ v d) : ∀ {vs : List V} {ds : List D}, VRs g H μ vs ds → VRs g H μ (vs.set i v) (ds.set i d) := by
  induction i with
  | zero =>
    intro vs ds h
    cases h with
    | nil => exact .nil
    | cons a b => exact .cons r b
  | succ n ih =>
    intro vs ds h
    cases h with
    | nil => exact .nil
    | cons a b => exact .cons a (ih b)
theorem VRs.reverse : ∀ {vs : List V} {ds : List D}, VRs g H μ vs ds → VRs g H μ vs.reverse ds.reverse
  | _, _, .nil => .nil
  | _, _, .cons a b => by
    rw [List.reverse_cons, List.reverse_cons]
    exact (VRs.reverse b).append (.cons a .nil)
theorem VRs.dropLast : ∀ {vs : List V} {ds : List D}, VRs g H μ vs ds → VRs g H μ vs.dropLast ds.dropLast
  | _, _, .nil => .nil
  | _, _, .cons a .nil => .nil
  | _, _, .cons a (.cons b c) => .cons a (VRs.dropLast (.cons b c))
theorem VRs.one {v : V} {d : D} (a : VR g H μ v d) : VRs g H μ [v] [d] := .cons a .nil
theorem SR.get : ∀ {σ : List (Option V)} {ρ : Slots} {i : Nat} {d : D}, SR g H μ σ ρ → ρ[i]? = some (some d) → ∃ v, σ[i]? = some (some v) ∧ VR g H μ v d
  | _, _, _, _, .nil, e => by simp at e
  | _, _, 0, _, .no _, e => by simp at e
  | _, _, 0, _, .yes a _, e => by
    simp only [List.getElem?_cons_zero, Option.some.injEq] at e
    subst e
    exact ⟨_, rfl, a⟩
  | _, _, i + 1, _, .no b, e => by
    obtain ⟨v, h1, h2⟩ := SR.get (i := i) b (by simpa using e)
    exact ⟨v, by simpa using h1, h2⟩
  | _, _, i + 1, _, .yes _ b, e => by
    obtain ⟨v, h1, h2⟩ := SR.get (i := i) b (by simpa using e)
    exact ⟨v, by simpa using h1, h2⟩
theorem SR.set (i : Nat) {v : V} {d : D} (r : VR g H μ v d) : ∀ {σ : List (Option V)} {ρ : Slots}, SR g H μ σ ρ → SR g H μ (σ.set i (some v)) (ρ.set i (some d)) := by
  induction i with
  | zero =>
    intro σ ρ h
    cases h with
    | nil => exact .nil
    | no b => exact .yes r b
    | yes a b => exact .yes r b
  | succ n ih =>
    intro σ ρ h
    cases h with
    | nil => exact .nil
    | no b => exact .no (ih b)
    | yes a b => exact .yes a (ih b)
theorem SR.unset (i : Nat) (o : Option V) : ∀ {σ : List (Option V)} {ρ : Slots}, SR g H μ σ ρ → SR g H μ (σ.set i o) (ρ.set i none) := by
  induction i with
  | zero =>
    intro σ ρ h
    cases h with
    | nil => exact .nil
    | no b => exact .no b
    | yes a b => exact .no b
  | succ n ih =>
    intro σ ρ h
    cases h with
    | nil => exact .nil
    | no b => exact .no (ih b)
    | yes a b => exact .yes a (ih b)
theorem SR.start : ∀ {vs : List V} {ds : List D} (n : Nat), VRs g H μ vs ds → SR g H μ (vs.map some ++ List.replicate n none) (ds.map some ++ List.replicate n none)
  | _, _, n, .nil => by
    show SR g H μ (List.replicate n none) (List.replicate n none)
    induction n with
    | zero => exact .nil
    | succ n ih => rw [List.replicate_succ]; exact .no ih
  | _, _, n, .cons a b => .yes a (SR.start n b)

/-! ### the heap changes -/
/-- a place that may be written: neither a tuple's nor a locked thing's -/
def Saf (H : Hp) (p : Addr) : Prop := ∀ u, H p = some u → ((∀ xs, u ≠ .tup xs) ∧ ¬ isX p u) ∧ ∀ o v, u ≠ .frz o v
theorem Saf.fresh {p : Addr} (h : H p = none) : Saf H p := fun u e => by rw [h] at e; cases e
theorem Saf.lst {p : Addr} {xs : List V} (h : H p = some (.lst xs)) : Saf H p := fun u e => by
  rw [h] at e
  cases e
  exact ⟨⟨fun _ z => (nomatch z), fun z => by rcases z with ⟨_, _, z⟩ | ⟨_, z⟩ <;> exact nomatch z⟩, fun _ _ z => (nomatch z)⟩
theorem Saf.dK {p : Addr} {xs : List (Key × V)} (h : H p = some (.dK xs)) : Saf H p := fun u e => by
  rw [h] at e
  cases e
  exact ⟨⟨fun _ z => (nomatch z), fun z => by rcases z with ⟨_, _, z⟩ | ⟨_, z⟩ <;> exact nomatch z⟩, fun _ _ z => (nomatch z)⟩
theorem Saf.ins {p C dx : Addr} {xs : List (Str × V)} (h : H p = some (.ins C dx xs)) : Saf H p := fun u e => by
  rw [h] at e
  cases e
  exact ⟨⟨fun _ z => (nomatch z), fun z => by rcases z with ⟨_, _, z⟩ | ⟨_, z⟩ <;> exact nomatch z⟩, fun _ _ z => (nomatch z)⟩
theorem dn_ne {w : World} {p C : Addr} {d : Option Addr} {xs : List (NestedKey × Addr × Value)} : DN w p xs ≠ XOk C d p := fun z => by
  unfold DN XOk at z
  injection z with z
  have hh : ∃ h : Heap, ∃ (oe : Obj) (vs : Array Value), h.get? p = some oe ∧ Zc (.ref C) d oe ∧ oe.data = .fields vs := by
    refine ⟨{ objs := Array.replicate (p + 1) { cls := .ref C, dict := d, data := .fields #[] } }, { cls := .ref C, dict := d, data := .fields #[] }, #[], ?_, ?_, rfl⟩
    · simp [Heap.get?]
    · exact ⟨rfl, rfl⟩
  obtain ⟨h, oe, vs, h1, h2, h3⟩ := hh
  have z2 := congrFun z h
  obtain ⟨_, _, o, es, ep, e1, _, e3, _⟩ := z2.mpr ⟨oe, vs, h1, h2, h3⟩
  rw [h1] at e1
  cases e1
  rw [h3] at e3
  cases e3
theorem Saf.dN {p : Addr} {w : World} {xs : List (NestedKey × Addr × Value)} (h : H p = some (DN w p xs)) : Saf H p := fun u e => by
  rw [h] at e
  cases e
  exact ⟨⟨fun _ z => (nomatch z), fun z => by
    rcases z with ⟨_, _, z⟩ | ⟨_, z⟩
    · exact dn_ne z
    · exact nomatch z⟩, fun _ _ z => (nomatch z)⟩
theorem Saf.mon {p : Addr} {o : HO} (s : Saf H p) : Mon g H (upd H p o) μ μ := ⟨List.prefix_rfl, fun q xs h => by
  rcases h with ⟨u, hu, h⟩ | h
  · refine .inl ⟨u, hu, ?_⟩
    rw [upd_ne]
    · exact h
    · rintro rfl; exact (s _ h).2 u _ rfl
  · exact .inr h, fun q u x h => by
    rw [upd_ne]
    · exact h
    · rintro rfl; exact (s _ h).1.2 x⟩
theorem OR.mono_at {p : Addr} {o : MO} (m : Mon g H H1 μ μ1) (k : ∀ u, H p = some u → H1 p = some u) (h : OR g H μ p o) : OR g H1 μ1 p o := by
  cases o with
  | lst ds => obtain ⟨xs, a, b⟩ := h; exact ⟨xs, k _ a, b.mono m⟩
  | rol ds =>
    obtain ⟨xs, a, b⟩ := h
    refine ⟨xs, ?_, b.mono m⟩
    rcases a with ⟨u, a⟩ | a
    · exact .inl ⟨u, k _ a⟩
    · exact .inr a
  | dK kvs => obtain ⟨xs, a, b⟩ := h; exact ⟨xs, k _ a, b.mono m⟩
  | ins c fs => obtain ⟨C, dx, xs, a, c', b⟩ := h; exact ⟨C, dx, xs, k _ a, c', b.mono m⟩
  | dN kvs => obtain ⟨xs, a, b⟩ := h; exact ⟨xs, k _ a, b.mono m⟩
theorem OR.mut {p : Addr} {o : MO} (h : OR g H μ p o) (hm : isMut o = true) : ∃ u, H p = some u ∧ (∀ w v, u ≠ .frz w v) := by
  cases o with
  | lst ds => obtain ⟨xs, a, b⟩ := h; exact ⟨_, a, fun _ _ z => nomatch z⟩
  | rol ds => cases hm
  | dK kvs => obtain ⟨xs, a, b⟩ := h; exact ⟨_, a, fun _ _ z => nomatch z⟩
  | ins c fs => obtain ⟨C, dx, xs, a, c', b⟩ := h; exact ⟨_, a, fun _ _ z => nomatch z⟩
  | dN kvs => obtain ⟨xs, a, b⟩ := h; exact ⟨_, a, fun _ _ z => nomatch z⟩
/-- a new thing is laid that is no cell of h -/
theorem HR.laid {h : MH} {p : Addr} {o : HO} (r : HR g H μ h) (hp : H p = none) : HR g (upd H p o) μ h :=
  ⟨r.len, fun i q u hi hu => (r.ob i q u hi hu).mono_at (Saf.fresh hp).mon fun w e => by rw [upd_ne (ne_of_none e hp)]; exact e, r.nd⟩
/-- a new cell -/
theorem HR.push {h : MH} {p : Addr} {o : HO} {u : MO} (r : HR g H μ h) (hp : H p = none) (hu : OR g (upd H p o) (μ ++ [p]) p u) : HR g (upd H p o) (μ ++ [p]) (h ++ [u]) := by
  have m : Mon g H (upd H p o) μ (μ ++ [p]) := ⟨List.prefix_append _ _, (Saf.fresh hp : Saf H p).mon (g := g) (μ := μ) (o := o) |>.tups, (Saf.fresh hp : Saf H p).mon (g := g) (μ := μ) (o := o) |>.xs⟩
  have key : ∀ (i : Nat) (q : Addr), (μ ++ [p])[i]? = some q → (i < μ.length ∧ μ[i]? = some q) ∨ (i = μ.length ∧ q = p) := fun i q e => by
    by_cases hi : i < μ.length
    · rw [List.getElem?_append_left hi] at e; exact .inl ⟨hi, e⟩
    · rw [List.getElem?_append_right (by omega)] at e
      have : i - μ.length = 0 := by
        have := (List.getElem?_eq_some_iff.mp e).1
        simp at this; omega
      rw [this] at e
      simp at e
      exact .inr ⟨by omega, e.symm⟩
  have keyh : ∀ (i : Nat) (w : MO), (h ++ [u])[i]? = some w → (i < h.length ∧ h[i]? = some w) ∨ (i = h.length ∧ w = u) := fun i w e => by
    by_cases hi : i < h.length
    · rw [List.getElem?_append_left hi] at e; exact .inl ⟨hi, e⟩
    · rw [List.getElem?_append_right (by omega)] at e
      have : i - h.length = 0 := by
        have := (List.getElem?_eq_some_iff.mp e).1
        simp at this; omega
      rw [this] at e
      simp at e
      exact .inr ⟨by omega, e.symm⟩
  have l := r.len
  refine ⟨by simp [l], fun i q w hi hw => ?_, fun i j q w v hi hj hw hv m1 m2 => ?_⟩
  · rcases key i q hi with ⟨a, b⟩ | ⟨a, b⟩
    · rcases keyh i w hw with ⟨c, d⟩ | ⟨c, d⟩
      · exact (r.ob i q w b d).mono_at m fun x e => by rw [upd_ne (ne_of_none e hp)]; exact e
      · omega
    · rcases keyh i w hw with ⟨c, d⟩ | ⟨c, d⟩
      · omega
      · subst b d; exact hu
  · rcases key i q hi with ⟨a, b⟩ | ⟨a, b⟩ <;> rcases key j q hj with ⟨a', b'⟩ | ⟨a', b'⟩
    · rcases keyh i w hw with ⟨c, d⟩ | ⟨c, d⟩
      · rcases keyh j v hv with ⟨c', d'⟩ | ⟨c', d'⟩
        · exact r.nd i j q w v b b' d d' m1 m2
        · omega
      · omega
    · rcases keyh i w hw with ⟨c, d⟩ | ⟨c, d⟩
      · obtain ⟨x, e, _⟩ := (r.ob i q w b d).mut m1
        subst b'
        rw [hp] at e; cases e
      · omega
    · rcases keyh j v hv with ⟨c, d⟩ | ⟨c, d⟩
      · obtain ⟨x, e, _⟩ := (r.ob j q v b' d).mut m2
        subst b
        rw [hp] at e; cases e
      · omega
    · omega
/-- a cell is written -/
theorem HR.write {h : MH} {i : Nat} {p : Addr} {o : HO} {u w : MO} (r : HR g H μ h) (hi : μ[i]? = some p) (hw : h[i]? = some w) (mw : isMut w = true) (s : Saf H p) (mu : isMut u = true) (hu : OR g (upd H p o) μ p u) : HR g (upd H p o) μ (h.set i u) := by
  have m : Mon g H (upd H p o) μ μ := s.mon
  have hlt : i < h.length := (List.getElem?_eq_some_iff.mp hw).1
  refine ⟨by rw [List.length_set]; exact r.len, fun j q v hj hv => ?_, fun j k q v x hj hk hv hx m1 m2 => ?_⟩
  · by_cases e : i = j
    · subst e
      rw [List.getElem?_set_self hlt] at hv
      rw [hi] at hj
      cases hj; cases hv
      exact hu
    · rw [List.getElem?_set_ne e] at hv
      have old := r.ob j q v hj hv
      cases mv : isMut v with
      | true =>
        refine old.mono_at m fun x ex => ?_
        rw [upd_ne]
        · exact ex
        · rintro rfl; exact e (r.nd i j q w v hi hj hw hv mw mv)
      | false =>
        cases v with
        | rol ds =>
          obtain ⟨xs, a, b⟩ := old
          refine ⟨xs, ?_, b.mono m⟩
          rcases a with ⟨u', a⟩ | a
          · refine .inl ⟨u', ?_⟩
            rw [upd_ne]
            · exact a
            · rintro rfl; exact (s _ a).2 _ _ rfl
          · exact .inr a
        | lst ds => cases mv
        | dK kvs => cases mv
        | ins c fs => cases mv
        | dN kvs => cases mv
  · have key : ∀ (j : Nat) (v : MO), (h.set i u)[j]? = some v → isMut v = true → ∃ v', h[j]? = some v' ∧ isMut v' = true := fun j v hv mv => by
      by_cases e : i = j
      · subst e; exact ⟨w, hw, mw⟩
      · rw [List.getElem?_set_ne e] at hv; exact ⟨v, hv, mv⟩
    obtain ⟨v', hv', mv'⟩ := key j v hv m1
    obtain ⟨x', hx', mx'⟩ := key k x hx m2
    exact r.nd j k q v' x' hj hk hv' hx' mv' mx'
end

/-! ### rules that lay tuples, the new one known to the object -/
section
variable {X : Cx} {es : List Expr} {t : TA} {pos : Pos}
def tTupF (t : TA) : TE := fun σ H Q => t σ H fun xs H1 => xs.length ≤ sizeLine ∧ ∀ (p : Addr) (ob : Obj), H1 p = none → ob.dict = none → Q (.ref p) (upd H1 p (.frz ob (.tup xs)))
theorem pe_tupF {x1} (h : PA X es t) : PE X (.Tuple es x1 pos) (tTupF t) := by
  refine ⟨fun pins s σ H Q I hq => ?_⟩
  refine wpAny_Tuple_spliced (thn (h.run pos pins s σ H _ I hq) fun us s1 ⟨xs, H1, I1, rv, zl, q⟩ => ⟨by rw [← rv.length]; exact zl, ?_⟩)
  have new : H1 s1.heap.objs.size = none := I1.hok.fresh (Nat.le_refl _)
  refine ⟨.ref s1.heap.objs.size, upd H1 s1.heap.objs.size (.frz { cls := .type "tuple", data := .seq us.toArray } (.tup xs)), I1.laid (t' := s1.toks) (fun b u e => Heap.get?_push_of_some _ e) (Nat.le_refl _) ?_, rfl, q _ _ new rfl⟩
  exact ⟨Heap.get?_push_size _ rfl, zl, us, rv, PyProof.Rows.IsTup.new _ _⟩
def rTupF (K : PySem.W.Frag) : List V → Hp → VK → Prop := fun xs H Q => ∃ p ys, xs = [.ref p] ∧ ((SqL K H p ys ∧ ∀ (l : Addr) (ob : Obj), H l = none → ob.dict = none → Q (.ref l) (upd H l (.frz ob (.tup ys)))) ∨ (SqT K H p ys ∧ Q (.ref p) H))
theorem call_tupF : CallR X (.type "tuple") (rTupF X.K) := by
  intro pins s σ H xs us Q I rr hh
  obtain ⟨p, ys, rfl, hh⟩ := hh
  rcases hh with ⟨hq, q⟩ | ⟨hq, q⟩
  · obtain ⟨u, rfl, rx⟩ := vals1 rr
    cases rx
    obtain ⟨its, rv, pl, zl⟩ := I.list hq
    have hlen := rv.length
    refine PySem.call_tuple_list pl.isList (fun h' kp => ?_) (by simp only [List.size_toArray]; omega)
    have I1 : Inv X pins σ H { s with heap := h' } := I.kept (t' := s.toks) kp
    refine ⟨.ref h'.objs.size, upd H h'.objs.size (.frz { cls := .type "tuple", data := .seq its.toArray } (.tup ys)), ?_, rfl, q _ _ (I1.hok.fresh (Nat.le_refl _)) rfl⟩
    exact I1.laid (t' := s.toks) (fun b o e => Heap.get?_push_of_some _ e) (Nat.le_refl _) ⟨Heap.get?_push_size _ rfl, zl, its, rv, PyProof.Rows.IsTup.new _ _⟩
  · exact call_tuple_of pins s σ H _ us Q I rr ⟨p, ys, rfl, .inr ⟨hq, q⟩⟩
def rCatF (K : PySem.W.Frag) : R2 := fun x y H Q => ∃ a b xs ys, x = .ref a ∧ y = .ref b ∧ SqT K H a xs ∧ SqT K H b ys ∧ xs.length + ys.length ≤ sizeLine ∧
  (xs = [] → Q (.ref b) H) ∧ (xs ≠ [] → ys = [] → Q (.ref a) H) ∧ (xs ≠ [] → ys ≠ [] → ∀ (p : Addr) (ob : Obj), H p = none → ob.dict = none → Q (.ref p) (upd H p (.frz ob (.tup (xs ++ ys)))))
theorem op_catF : OpR X (binaryOp .Add) (rCatF X.K) := by
  intro pins s σ H x y v u Q I rx ry hh
  obtain ⟨a, b, xs, ys, rfl, rfl, ha, hb, zl, q0, q1, q2⟩ := hh
  cases rx
  cases ry
  obtain ⟨ws1, r1, p1, _⟩ := I.tuple ha
  obtain ⟨ws2, r2, p2, _⟩ := I.tuple hb
  by_cases hx : xs = []
  · subst hx
    cases r1
    exact cat_tup0 p1 p2 ⟨.ref b, H, I, rfl, q0 rfl⟩
  · refine HT.cat_tup p1 p2 (fun z => hx (r1.nil_iff.mp z)) (fun z => ⟨.ref a, H, I, rfl, q1 hx (r2.nil_iff.mp z)⟩) (fun z => ?_) (by rw [← r1.length, ← r2.length]; exact zl)
    refine ⟨.ref s.heap.objs.size, upd H s.heap.objs.size (.frz { cls := .type "tuple", data := .seq (ws1 ++ ws2).toArray } (.tup (xs ++ ys))), ?_, rfl, q2 hx (fun w => z (r2.nil_iff.mpr w)) _ _ (I.hok.fresh (Nat.le_refl _)) rfl⟩
    exact I.laid (t' := s.toks) (fun b ob e => Heap.get?_push_of_some _ e) (Nat.le_refl _) ⟨Heap.get?_push_size _ rfl, by rw [List.length_append]; exact zl, _, r1.append r2, PyProof.Rows.IsTup.new _ _⟩
def rSlF (K : PySem.W.Frag) : V → Option Int → Option Int → Hp → VK → Prop := fun x lo hi H Q => ∃ a xs, x = .ref a ∧ SqT K H a xs ∧
  (HT.sIx xs.length 0 lo = 0 ∧ HT.sIx xs.length xs.length hi = xs.length → Q (.ref a) H) ∧ (¬ (HT.sIx xs.length 0 lo = 0 ∧ HT.sIx xs.length xs.length hi = xs.length) → ∀ (p : Addr) (ob : Obj), H p = none → ob.dict = none → Q (.ref p) (upd H p (.frz ob (.tup (cutV xs lo hi)))))
theorem sl_tupF : SlR X (rSlF X.K) := by
  intro pins s σ H x v vl vu lo hi sl Q I rx hs pl pu hh
  obtain ⟨a, xs, rfl, hx, q1, q2⟩ := hh
  by_cases hw : HT.sIx xs.length 0 lo = 0 ∧ HT.sIx xs.length xs.length hi = xs.length
  · exact sl_tupA pins s σ H _ v vl vu lo hi sl Q I rx hs pl pu ⟨a, xs, rfl, hx, q1, fun z => absurd hw z⟩
  · cases rx
    obtain ⟨ws, rv, ht, zl⟩ := I.tuple hx
    have el : ws.toArray.size = xs.length := by rw [List.size_toArray]; exact rv.length.symm
    refine ⟨"tuple", _, PyProof.Rows.slot_tuple_getitem.lookup, ht.typeIs, ?_⟩
    refine HT.getItem_tuple_cut ht hs pl pu (by rw [el]; exact hw) ?_ (by rw [el]; exact zl)
    rw [el]
    refine ⟨.ref s.heap.objs.size, upd H s.heap.objs.size (.frz { cls := .type "tuple", data := .seq ((ws.drop (HT.sIx xs.length 0 lo)).take (HT.sIx xs.length xs.length hi - HT.sIx xs.length 0 lo)).toArray } (.tup (cutV xs lo hi))), ?_, rfl, q2 hw _ _ (I.hok.fresh (Nat.le_refl _)) rfl⟩
    exact I.laid (t' := s.toks) (fun b ob e => Heap.get?_push_of_some _ e) (Nat.le_refl _) ⟨Heap.get?_push_size _ rfl, Nat.le_trans (cutV_length xs lo hi) zl, _, (rv.drop _).take _, PyProof.Rows.IsTup.new _ _⟩
end
end Mi

namespace Mi
open PySem L2

/-! ### what is wanted behind -/
/-- an exception of the class named x with these fields -/
def XR (g : G) (H : Hp) (μ : List Addr) (cls : Value) (d : Option Addr) (x : Str) (fs : List (Str × D)) : Prop :=
  ∃ C, cls = .ref C ∧ g.cm x = some C ∧ ((fs = [] ∧ d = none) ∨ ∃ dd fv, fs ≠ [] ∧ d = some dd ∧ H dd = some (.xd fv) ∧ KR g H μ fv fs)
def Bk {α β : Type} (rel : Hp → List Addr → β → α → Prop) (g : G) (H : Hp) (μ : List Addr) (r : R α) (Q : β → Hp → Prop) (W : XK) : Prop := match r with
  | .ok a h' => ∀ b H' μ', Mon g H H' μ μ' → HR g H' μ' h' → rel H' μ' b a → Q b H'
  | .exc x fs h' => ∀ cls d H' μ', Mon g H H' μ μ' → HR g H' μ' h' → XR g H' μ' cls d x fs → W cls d H'
  | .bad => False
abbrev eqR : Hp → List Addr → Bool → Bool → Prop := fun _ _ b a => b = a
abbrev opR : Hp → List Addr → Option Int → Option Int → Prop := fun _ _ b a => b = a
section
variable {g : G} {H H1 : Hp} {μ μ1 : List Addr} {α α' β β' : Type} {rel : Hp → List Addr → β → α → Prop} {rel' : Hp → List Addr → β' → α' → Prop}
theorem Bk.mono {r : R α} {Q : β → Hp → Prop} {W : XK} (m : Mon g H H1 μ μ1) (h : Bk rel g H μ r Q W) : Bk rel g H1 μ1 r Q W := by
  cases r with
  | ok a h' => exact fun b H' μ' m' => h b H' μ' (m.trans m')
  | exc x fs h' => exact fun cls d H' μ' m' => h cls d H' μ' (m.trans m')
  | bad => exact h
theorem Bk.bind {r : R α} {f : α → MH → R α'} {Q : β → Hp → Prop} {Q' : β' → Hp → Prop} {W : XK} (hb : Bk rel' g H μ (r.bind f) Q' W)
    (k : ∀ a h1 b H1 μ1, r = .ok a h1 → Mon g H H1 μ μ1 → HR g H1 μ1 h1 → rel H1 μ1 b a → Bk rel' g H1 μ1 (f a h1) Q' W → Q b H1) : Bk rel g H μ r Q W := by
  cases r with
  | ok a h' => exact fun b H' μ' m hr hv => k a h' b H' μ' rfl m hr hv (Bk.mono m hb)
  | exc x fs h' => exact hb
  | bad => exact hb
end

abbrev ME := Slots → MH → R D
abbrev MT := Slots → MH → R Bool
abbrev MA := Slots → MH → R (List D)
abbrev MP := Slots → MH → R (Option Int)
def tX {α β : Type} (rel : G → Hp → List Addr → β → α → Prop) (g : G) (W : WX) (m : Slots → MH → R α) : St → Hp → (β → Hp → Prop) → Prop := fun σ H Q =>
  ∃ ρ h μ, SR g H μ σ ρ ∧ HR g H μ h ∧ Bk (rel g) g H μ (m ρ h) Q (fun c d H' => W c d σ H')
abbrev tE (g : G) (W : WX) (m : ME) : TE := tX VR g W m
abbrev tT (g : G) (W : WX) (m : MT) : TT := tX (fun _ => eqR) g W m
abbrev tA (g : G) (W : WX) (m : MA) : TA := tX VRs g W m
abbrev tP (g : G) (W : WX) (m : MP) : TO := tX (fun _ => opR) g W m

inductive Out where
  | nx (ρ : Slots) (h : MH) | rt (d : D) (h : MH) | bk (ρ : Slots) (h : MH) | ct (ρ : Slots) (h : MH) | exc (x : Str) (fs : List (Str × D)) (ρ : Slots) (h : MH) | bad
abbrev MS := Slots → MH → Out
def BkS (g : G) (H : Hp) (μ : List Addr) (o : Out) (E : Ends) (W : WX) : Prop := match o with
  | .nx ρ h => ∀ σ' H' μ', Mon g H H' μ μ' → SR g H' μ' σ' ρ → HR g H' μ' h → E.nx σ' H'
  | .rt d h => ∀ v H' μ', Mon g H H' μ μ' → HR g H' μ' h → VR g H' μ' v d → E.rt v H'
  | .bk ρ h => ∀ σ' H' μ', Mon g H H' μ μ' → SR g H' μ' σ' ρ → HR g H' μ' h → E.bk σ' H'
  | .ct ρ h => ∀ σ' H' μ', Mon g H H' μ μ' → SR g H' μ' σ' ρ → HR g H' μ' h → E.ct σ' H'
  | .exc x fs ρ h => ∀ cls d σ' H' μ', Mon g H H' μ μ' → SR g H' μ' σ' ρ → HR g H' μ' h → XR g H' μ' cls d x fs → W cls d σ' H'
  | .bad => False
theorem BkS.mono {g : G} {H H1 : Hp} {μ μ1 : List Addr} {o : Out} {E : Ends} {W : WX} (m : Mon g H H1 μ μ1) (h : BkS g H μ o E W) : BkS g H1 μ1 o E W := by
  cases o with
  | nx ρ h' => exact fun σ' H' μ' m' => h σ' H' μ' (m.trans m')
  | rt d h' => exact fun v H' μ' m' => h v H' μ' (m.trans m')
  | bk ρ h' => exact fun σ' H' μ' m' => h σ' H' μ' (m.trans m')
  | ct ρ h' => exact fun σ' H' μ' m' => h σ' H' μ' (m.trans m')
  | exc x fs ρ h' => exact fun cls d σ' H' μ' m' => h cls d σ' H' μ' (m.trans m')
  | bad => exact h
def tS (g : G) (W : WX) (m : MS) : TS := fun E σ H => ∃ ρ h μ, SR g H μ σ ρ ∧ HR g H μ h ∧ BkS g H μ (m ρ h) E W

/-- an expression's end within a statement -/
def R.out {α : Type} (r : R α) (ρ : Slots) (k : α → MH → Out) : Out := match r with
  | .ok a h => k a h
  | .exc x fs h => .exc x fs ρ h
  | .bad => .bad
theorem R.out_ok {α : Type} (a : α) (h : MH) (ρ : Slots) (k : α → MH → Out) : (R.ok a h).out ρ k = k a h := rfl
theorem R.out_exc {α : Type} (x : Str) (fs : List (Str × D)) (h : MH) (ρ : Slots) (k : α → MH → Out) : (R.exc x fs h : R α).out ρ k = .exc x fs ρ h := rfl
theorem R.out_bad {α : Type} (ρ : Slots) (k : α → MH → Out) : (R.bad : R α).out ρ k = .bad := rfl

section
variable {g : G} {W : WX} {α β α' β' : Type} {rel : G → Hp → List Addr → β → α → Prop} {rel' : G → Hp → List Addr → β' → α' → Prop} {σ : St} {H : Hp} {μ : List Addr} {ρ : Slots} {h : MH}
/-- one part is read; what follows it -/
theorem step {ma : Slots → MH → R α} {f : α → MH → R α'} {Q : β → Hp → Prop} {Q' : β' → Hp → Prop} (sr : SR g H μ σ ρ) (hr : HR g H μ h) (hb : Bk (rel' g) g H μ ((ma ρ h).bind f) Q' (fun c d H' => W c d σ H'))
    (k : ∀ b a h1 H1 μ1, Mon g H H1 μ μ1 → SR g H1 μ1 σ ρ → HR g H1 μ1 h1 → rel g H1 μ1 b a → Bk (rel' g) g H1 μ1 (f a h1) Q' (fun c d H' => W c d σ H') → Q b H1) : tX rel g W ma σ H Q :=
  ⟨ρ, h, μ, sr, hr, Bk.bind hb fun a h1 b H1 μ1 _ m hr1 hv bk => k b a h1 H1 μ1 m (sr.mono m) hr1 hv bk⟩
theorem stepS {ma : Slots → MH → R α} {f : α → MH → Out} {Q : β → Hp → Prop} {E : Ends} (sr : SR g H μ σ ρ) (hr : HR g H μ h) (hb : BkS g H μ ((ma ρ h).out ρ f) E W)
    (k : ∀ b a h1 H1 μ1, Mon g H H1 μ μ1 → SR g H1 μ1 σ ρ → HR g H1 μ1 h1 → rel g H1 μ1 b a → BkS g H1 μ1 (f a h1) E W → Q b H1) : tX rel g W ma σ H Q := by
  refine ⟨ρ, h, μ, sr, hr, ?_⟩
  cases e : ma ρ h with
  | ok a h' =>
    rw [e] at hb
    exact fun b H' μ' m hr' hv => k b a h' H' μ' m (sr.mono m) hr' hv (BkS.mono m hb)
  | exc x fs h' =>
    rw [e] at hb
    exact fun cls d H' μ' m hr' hx => hb cls d σ H' μ' m (sr.mono m) hr' hx
  | bad =>
    rw [e] at hb
    exact hb
end

/-! ### the judgements are monotone -/
section
variable {X : Cx}
theorem pe_mono {e : Expr} {t t' : TE} (h : PE X e t) (hm : ∀ σ H Q, t' σ H Q → t σ H Q) : PE X e t' := ⟨fun pins s σ H Q I q => h.run pins s σ H Q I (hm σ H Q q)⟩
theorem pt_mono {e : Expr} {t t' : TT} (h : PT X e t) (hm : ∀ σ H Q, t' σ H Q → t σ H Q) : PT X e t' := ⟨fun pins s σ H Q I q => h.run pins s σ H Q I (hm σ H Q q)⟩
theorem pw_mono {e : Expr} {t t' : TT} (h : PW X e t) (hm : ∀ σ H Q, t' σ H Q → t σ H Q) : PW X e t' := ⟨fun wh pins s σ H Q I q => h.run wh pins s σ H Q I (hm σ H Q q)⟩
theorem pa_mono {es : List Expr} {t t' : TA} (h : PA X es t) (hm : ∀ σ H Q, t' σ H Q → t σ H Q) : PA X es t' := ⟨fun pos pins s σ H Q I q => h.run pos pins s σ H Q I (hm σ H Q q)⟩
theorem ps_mono {st : Stmt} {t t' : TS} (h : PS X st t) (hm : ∀ E σ H, t' E σ H → t E σ H) : PS X st t' := ⟨fun pins s σ H E I q => h.run pins s σ H E I (hm E σ H q)⟩
theorem pss_mono {st : List Stmt} {t t' : TS} (h : PSs X st t) (hm : ∀ E σ H, t' E σ H → t E σ H) : PSs X st t' := ⟨fun pins s σ H E I q => h.run pins s σ H E I (hm E σ H q)⟩
theorem pe_or2 {e : Expr} {t u : TE} (h : PE X e t) (h' : PE X e u) : PE X e (fun σ H Q => t σ H Q ∨ u σ H Q) := ⟨fun pins s σ H Q I q => by
  rcases q with q | q
  · exact h.run pins s σ H Q I q
  · exact h'.run pins s σ H Q I q⟩
end

/-! ### plain parts -/
def mVar (i : Nat) : ME := fun ρ h => match ρ[i]? with
  | some (some d) => .ok d h
  | _ => .bad
def mC (d : D) : ME := fun _ h => .ok d h
def mBin (f : D → D → MH → R D) (a b : ME) : ME := fun ρ h => (a ρ h).bind fun x h1 => (b ρ h1).bind fun y h2 => f x y h2
def mUn (f : D → MH → R D) (a : ME) : ME := fun ρ h => (a ρ h).bind fun x h1 => f x h1
def mNil : MA := fun _ h => .ok [] h
def mCons (a : ME) (r : MA) : MA := fun ρ h => (a ρ h).bind fun x h1 => (r ρ h1).bind fun xs h2 => .ok (x :: xs) h2
def mTup (a : MA) : ME := fun ρ h => (a ρ h).bind fun xs h1 => if xs.length ≤ 1000000 then .ok (.tup xs) h1 else .bad
def mLst (a : MA) : ME := fun ρ h => (a ρ h).bind fun xs h1 => if xs.length ≤ 1000000 then .ok (.ref h1.length) (h1 ++ [.lst xs]) else .bad
def mCall (F : List D → MH → R D) (a : MA) : ME := fun ρ h => (a ρ h).bind fun xs h1 => F xs h1

/-- an operation by values -/
def S2 (g : G) (r : R2) (f : D → D → MH → R D) : Prop := ∀ (H : Hp) (μ : List Addr) (h : MH) (x y : V) (a b : D) (Q : VK) (W : XK), HR g H μ h → VR g H μ x a → VR g H μ y b → Bk (VR g) g H μ (f a b h) Q W → r x y H Q
def S1 (g : G) (r : V → Hp → VK → Prop) (f : D → MH → R D) : Prop := ∀ (H : Hp) (μ : List Addr) (h : MH) (x : V) (a : D) (Q : VK) (W : XK), HR g H μ h → VR g H μ x a → Bk (VR g) g H μ (f a h) Q W → r x H Q
def SN (g : G) (r : List V → Hp → VK → Prop) (f : List D → MH → R D) : Prop := ∀ (H : Hp) (μ : List Addr) (h : MH) (xs : List V) (ds : List D) (Q : VK) (W : XK), HR g H μ h → VRs g H μ xs ds → Bk (VR g) g H μ (f ds h) Q W → r xs H Q
def SM (g : G) (r : V → List V → Hp → VK → Prop) (f : D → List D → MH → R D) : Prop := ∀ (H : Hp) (μ : List Addr) (h : MH) (x : V) (xs : List V) (a : D) (ds : List D) (Q : VK) (W : XK), HR g H μ h → VR g H μ x a → VRs g H μ xs ds → Bk (VR g) g H μ (f a ds h) Q W → r x xs H Q

section
variable {g : G} {H : Hp} {μ : List Addr} {h : MH} {Q : VK} {W : XK}
/-- the ends of an operation -/
theorem Bk.val {v : V} {d : D} (hb : Bk (VR g) g H μ (.ok d h) Q W) (hr : HR g H μ h) (hv : VR g H μ v d) : Q v H := hb v H μ Mon.refl hr hv
theorem Bk.newT {xs : List V} {ds : List D} {p : Addr} {ob : Obj} (hb : Bk (VR g) g H μ (.ok (.tup ds) h) Q W) (hr : HR g H μ h) (hv : VRs g H μ xs ds) (hp : H p = none) (ho : ob.dict = none) : Q (.ref p) (upd H p (.frz ob (.tup xs))) := by
  have m : Mon g H (upd H p (.frz ob (.tup xs))) μ μ := (Saf.fresh hp).mon
  exact hb _ _ μ m (hr.laid hp) (.tup (.inl ⟨ob, ho, upd_same⟩) (hv.mono m))
theorem mon_push {p : Addr} {o : HO} (hp : H p = none) : Mon g H (upd H p o) μ (μ ++ [p]) := ⟨List.prefix_append _ _, ((Saf.fresh hp : Saf H p).mon (g := g) (μ := μ) (o := o)).tups, ((Saf.fresh hp : Saf H p).mon (g := g) (μ := μ) (o := o)).xs⟩
theorem ix_push {p : Addr} {n : Nat} (l : μ.length = n) : (μ ++ [p])[n]? = some p := by
  subst l
  simp
theorem Bk.newL {xs : List V} {ds : List D} {p : Addr} (hb : Bk (VR g) g H μ (.ok (.ref h.length) (h ++ [.lst ds])) Q W) (hr : HR g H μ h) (hv : VRs g H μ xs ds) (hp : H p = none) : Q (.ref p) (upd H p (.lst xs)) :=
  hb _ _ (μ ++ [p]) (mon_push hp) (hr.push hp ⟨xs, upd_same, hv.mono (mon_push hp)⟩) (.ref (ix_push hr.len))
theorem Bk.setL {xs xs' : List V} {ds ds' : List D} {p : Addr} {i : Nat} {v : V} {d : D} (hb : Bk (VR g) g H μ (.ok d (h.set i (.lst ds'))) Q W) (hr : HR g H μ h) (hi : μ[i]? = some p) (hh : h[i]? = some (.lst ds)) (hp : H p = some (.lst xs)) (hv : VRs g H μ xs' ds') (hd : VR g H μ v d) : Q v (upd H p (.lst xs')) := by
  have m : Mon g H (upd H p (.lst xs')) μ μ := (Saf.lst hp).mon
  exact hb v _ μ m (hr.write hi hh rfl (Saf.lst hp) rfl ⟨xs', upd_same, hv.mono m⟩) (hd.mono m)
/-- a cell that is a list -/
theorem HR.lst {i : Nat} {p : Addr} {ds : List D} (hr : HR g H μ h) (hi : μ[i]? = some p) (hh : h[i]? = some (.lst ds)) : ∃ xs, H p = some (.lst xs) ∧ VRs g H μ xs ds := hr.ob i p _ hi hh
/-- a list that may be read: a cell that changes or not -/
def getL (h : MH) (i : Nat) : Option (List D) := match h[i]? with
  | some (.lst l) => some l
  | some (.rol l) => some l
  | _ => none
theorem HR.list {i : Nat} {p : Addr} {ds : List D} (hr : HR g H μ h) (hi : μ[i]? = some p) (hh : getL h i = some ds) : ∃ xs, SqL g.K H p xs ∧ VRs g H μ xs ds := by
  unfold getL at hh
  split at hh
  · rename_i l e
    cases hh
    obtain ⟨xs, a, b⟩ := hr.ob i p _ hi e
    exact ⟨xs, .inl (.inl a), b⟩
  · rename_i l e
    cases hh
    obtain ⟨xs, a, b⟩ := hr.ob i p _ hi e
    exact ⟨xs, a.sq, b⟩
  · cases hh
end
theorem sz6 {n : Nat} (h : n ≤ 1000000) : n ≤ sizeLine := Nat.le_trans h (by decide)
theorem sz6' {n : Nat} (h : n < 1000000) : n < sizeLine := Nat.lt_trans h (by decide)

section
variable {X : Cx} {g : G} {W : WX} {a b e : Expr} {ma mb : ME} {pos : Pos} {es : List Expr} {mr : MA}
theorem se_var {i : Nat} {x : Str} (hN : X.N[i]? = some x) (hv : Vis X.env.scope x) (hd : (x == ("__debug__" : Str)) = false := by decide) (hcd : (x == ("__classdict__" : Str)) = false := by decide) : PE X (.Name x pos) (tE g W (mVar i)) :=
  pe_mono (pe_var hN hv hd hcd) fun σ H Q ⟨ρ, h, μ, sr, hr, bk⟩ => by
    unfold mVar at bk
    split at bk
    · rename_i d e
      obtain ⟨v, h1, h2⟩ := sr.get e
      exact ⟨v, h1, bk.val hr h2⟩
    · exact bk.elim
theorem mv (i : Nat) {x : Str} {pos : Pos} (hN : X.N[i]? = some x := by rfl) (hv : Vis X.env.scope x := by first | exact Or.inl rfl | exact Or.inr (Or.inl rfl) | exact Or.inr (Or.inr rfl)) (hd : (x == ("__debug__" : Str)) = false := by decide)
    (hcd : (x == ("__classdict__" : Str)) = false := by decide) : PE X (.Name x pos) (tE g W (mVar i)) := se_var hN hv hd hcd
theorem se_const {v : V} {d : D} (h : PE X e (tC v)) (hv : ∀ H μ, VR g H μ v d) : PE X e (tE g W (mC d)) := pe_mono h fun σ H Q ⟨ρ, hh, μ, sr, hr, bk⟩ => bk.val hr (hv H μ)
theorem se_int {i : Int} {j : Nat} : PE X (.Constant (.int i) j pos) (tE g W (mC (.int i))) := se_const pe_int fun _ _ => .int i
theorem se_bl {i : Bool} {j : Nat} : PE X (.Constant (.bool i) j pos) (tE g W (mC (.bl i))) := se_const pe_bl fun _ _ => .bl i
theorem se_non {j : Nat} : PE X (.Constant .none j pos) (tE g W (mC .non)) := se_const pe_non fun _ _ => .non
theorem se_str {x : Str} {j : Nat} : PE X (.Constant (.str x) j pos) (tE g W (mC (.str x))) := se_const pe_str fun _ _ => .str x
theorem se_globS {x y : Str} {t : Tok} (hg : Gl X x) (hm : X.mg x = some (.str y t)) (hd : (x == ("__debug__" : Str)) = false := by decide) : PE X (.Name x pos) (tE g W (mC (.str y))) := se_const (pe_glob (v := .str y) hg hm ⟨t, rfl⟩ hd) fun _ _ => .str y
theorem se_globI {x : Str} {y : Int} {t : Tok} (hg : Gl X x) (hm : X.mg x = some (.int y t)) (hd : (x == ("__debug__" : Str)) = false := by decide) : PE X (.Name x pos) (tE g W (mC (.int y))) := se_const (pe_glob (v := .int y) hg hm ⟨t, rfl⟩ hd) fun _ _ => .int y
/-- two parts by values -/
theorem two {r : R2} {f : D → D → MH → R D} (hs : S2 g r f) {σ : St} {H : Hp} {Q : VK} (q : tE g W (mBin f ma mb) σ H Q) : tOp r (tE g W ma) (tE g W mb) σ H Q := by
  obtain ⟨ρ, h, μ, sr, hr, bk⟩ := q
  exact step sr hr bk fun x a h1 H1 μ1 m1 sr1 hr1 vx bk1 => step sr1 hr1 bk1 fun y b h2 H2 μ2 m2 sr2 hr2 vy bk2 => hs H2 μ2 h2 x y a b Q _ hr2 (vx.mono m2) vy bk2
theorem se_bin {op : Operator} {r : R2} {f : D → D → MH → R D} (ho : OpR X (binaryOp op) r) (hs : S2 g r f) (ha : PE X a (tE g W ma)) (hb : PE X b (tE g W mb)) : PE X (.BinOp a op b pos) (tE g W (mBin f ma mb)) :=
  pe_mono (pe_op ho ha hb) fun σ H Q q => two hs q
theorem se_cmp {op : CmpOp} {r : R2} {f : D → D → MH → R D} (ho : OpR X (compareOp op) r) (hs : S2 g r f) (ha : PE X a (tE g W ma)) (hb : PE X b (tE g W mb)) (hm : behindInMarks op b = false) : PE X (.Compare a [op] [b] pos) (tE g W (mBin f ma mb)) :=
  pe_mono (pe_cmpR ho ha hb hm) fun σ H Q q => two hs q
theorem se_un {op : UnaryOp} {r : V → Hp → VK → Prop} {f : D → MH → R D} (ho : UnR X (unaryOp op) r) (hs : S1 g r f) (ha : PE X a (tE g W ma)) : PE X (.UnaryOp op a pos) (tE g W (mUn f ma)) :=
  pe_mono (pe_un ho ha) fun σ H Q ⟨ρ, h, μ, sr, hr, bk⟩ => step sr hr bk fun x a h1 H1 μ1 m1 sr1 hr1 vx bk1 => hs H1 μ1 h1 x a Q _ hr1 vx bk1
theorem se_ix {r : R2} {f : D → D → MH → R D} (hx : IxR X r) (hs : S2 g r f) (ha : PE X a (tE g W ma)) (hb : PE X b (tE g W mb)) (hp : PlainIx b) : PE X (.Subscript a b pos) (tE g W (mBin f ma mb)) :=
  pe_mono (pe_ix hx ha hb hp) fun σ H Q q => two hs q

/-! ### arguments, displays -/
theorem sa_nil : PA X [] (tA g W mNil) := pa_mono pa_nil fun σ H Q ⟨ρ, h, μ, sr, hr, bk⟩ => bk [] H μ Mon.refl hr .nil
theorem sa_cons (ha : PE X e (tE g W ma)) (hr : PA X es (tA g W mr)) (hs : starEach (e :: es) X.env = (false, eval e X.env) :: starEach es X.env := by rfl) : PA X (e :: es) (tA g W (mCons ma mr)) :=
  pa_mono (pa_cons ha hr hs) fun σ H Q ⟨ρ, h, μ, sr, hr, bk⟩ => step sr hr bk fun x a h1 H1 μ1 m1 sr1 hr1 vx bk1 => step sr1 hr1 bk1 fun xs ds h2 H2 μ2 m2 sr2 hr2 vs bk2 => bk2 (x :: xs) H2 μ2 Mon.refl hr2 (.cons (vx.mono m2) vs)
theorem se_tup {x1 : Nat} (h : PA X es (tA g W mr)) : PE X (.Tuple es x1 pos) (tE g W (mTup mr)) :=
  pe_mono (pe_tupF h) fun σ H Q ⟨ρ, h, μ, sr, hr, bk⟩ => step sr hr bk fun xs ds h1 H1 μ1 m1 sr1 hr1 vs bk1 => by
    split at bk1
    · rename_i hl
      exact ⟨by rw [vs.length]; exact sz6 hl, fun p ob hp ho => bk1.newT hr1 vs hp ho⟩
    · exact bk1.elim
theorem se_lst (h : PA X es (tA g W mr)) : PE X (.List es pos) (tE g W (mLst mr)) :=
  pe_mono (pe_lst h) fun σ H Q ⟨ρ, h, μ, sr, hr, bk⟩ => step sr hr bk fun xs ds h1 H1 μ1 m1 sr1 hr1 vs bk1 => by
    split at bk1
    · rename_i hl
      exact ⟨by rw [vs.length]; exact sz6 hl, fun p hp => bk1.newL hr1 vs hp⟩
    · exact bk1.elim
/-! ### calls of built-ins -/
theorem se_callB {x : Str} {p : Pos} {id : String} {r : List V → Hp → VK → Prop} {f : List D → MH → R D} (hc : CallR X (.builtin id) r) (hs : SN g r f) (hg : Gl X x) (hm : X.mg x = none) (hv : bootBuiltins x = some (.builtin id)) (ha : PA X (e :: es) (tA g W mr))
    (hn : x ≠ "__name__" := by decide) (hdb : (x == ("__debug__" : Str)) = false := by decide)
    (he : starEach (e :: es) X.env = (false, eval e X.env) :: starEach es X.env := by rfl) (hpl : (backTo pos (starEach es X.env)).any (·.1) = false := by rfl) : PE X (.Call (.Name x p) (e :: es) [] pos) (tE g W (mCall f mr)) :=
  pe_mono (pe_callB hc hg hm hv ha hn hdb he hpl) fun σ H Q ⟨ρ, h, μ, sr, hr, bk⟩ => step sr hr bk fun xs ds h1 H1 μ1 m1 sr1 hr1 vs bk1 => hs H1 μ1 h1 xs ds Q _ hr1 vs bk1
theorem se_callTy {x : Str} {p : Pos} {T : String} {r : List V → Hp → VK → Prop} {f : List D → MH → R D} (hc : CallR X (.type T) r) (hs : SN g r f) (hg : Gl X x) (hm : X.mg x = none) (hv : bootBuiltins x = some (.type T)) (ha : PA X (e :: es) (tA g W mr))
    (hn : x ≠ "__name__" := by decide) (hdb : (x == ("__debug__" : Str)) = false := by decide)
    (he : starEach (e :: es) X.env = (false, eval e X.env) :: starEach es X.env := by rfl) (hpl : (backTo pos (starEach es X.env)).any (·.1) = false := by rfl) : PE X (.Call (.Name x p) (e :: es) [] pos) (tE g W (mCall f mr)) :=
  pe_mono (pe_callTy hc hg hm hv ha hn hdb he hpl) fun σ H Q ⟨ρ, h, μ, sr, hr, bk⟩ => step sr hr bk fun xs ds h1 H1 μ1 m1 sr1 hr1 vs bk1 => hs H1 μ1 h1 xs ds Q _ hr1 vs bk1
/-! ### methods of built-in types -/
def mMeth (T : D → MH → Bool) (f : D → List D → MH → R D) (a : ME) (r : MA) : ME := fun ρ h => (a ρ h).bind fun x h1 => if T x h1 = true then (r ρ h1).bind fun xs h2 => f x xs h2 else .bad
def isListD (x : D) (h : MH) : Bool := match x with
  | .ref i => (getL h i).isSome
  | _ => false
def isStrD (x : D) (_ : MH) : Bool := match x with
  | .str _ => true
  | _ => false
def isTupD (x : D) (_ : MH) : Bool := match x with
  | .tup _ => true
  | _ => false
/-! ### defs of the program -/
def spM (g : G) (F : List D → MH → R D) : Sp := fun vs H Q E => ∃ ds h μ, VRs g H μ vs ds ∧ HR g H μ h ∧ Bk (VR g) g H μ (F ds h) Q E
theorem se_call {k : Nat} {f : Addr} {fd : FuncData} {ps : List Str} {F : List D → MH → R D} {x : Str} {p : Pos} (FF : FnOk X.prog X.w X.K X.mg X.base (L2.CX X.prog X.w) k f fd ps (spM g F)) (hr : Room k X.A) (tk : Takes X W) (hm : X.mg x = some (.ref f)) (hk : PySem.W.keepIn X.K (.ref f) = true) (hb : Binds X.K fd ps [])
    (ha : PA X (e :: es) (tA g W mr)) (hg : Gl X x := by rfl) (hdb : (x == ("__debug__" : Str)) = false := by decide) (he : starEach (e :: es) X.env = (false, eval e X.env) :: starEach es X.env := by rfl) (hpl : (backTo pos (starEach es X.env)).any (·.1) = false := by rfl) :
    PE X (.Call (.Name x p) (e :: es) [] pos) (tE g W (mCall F mr)) :=
  pe_mono (pe_callS FF hr hg hm hk hb (fun σ => passAt tk σ) ha hdb he hpl) fun σ H Q ⟨ρ, h, μ, sr, hr, bk⟩ => step sr hr bk fun xs ds h1 H1 μ1 m1 sr1 hr1 vs bk1 => ⟨ds, h1, μ1, vs, hr1, bk1⟩

/-! ### tests -/
def mB (a : ME) : MT := fun ρ h => (a ρ h).bind fun x h1 => match x with
  | .bl b => .ok b h1
  | _ => .bad
def mAnd (a b : MT) : MT := fun ρ h => (a ρ h).bind fun x h1 => if x = true then b ρ h1 else .ok false h1
def mOr (a b : MT) : MT := fun ρ h => (a ρ h).bind fun x h1 => if x = true then .ok true h1 else b ρ h1
def mNot (a : MT) : MT := fun ρ h => (a ρ h).bind fun x h1 => .ok (!x) h1
theorem bl_of {σ : St} {H : Hp} {Q : Bool → Hp → Prop} (q : tT g W (mB ma) σ H Q) : tE g W ma σ H fun x H1 => ∃ c, x = .bl c ∧ Q c H1 := by
  obtain ⟨ρ, h, μ, sr, hr, bk⟩ := q
  refine step (rel := VR) (rel' := fun _ => eqR) (ma := ma) sr hr bk fun x a h1 H1 μ1 m1 sr1 hr1 vx bk1 => ?_
  cases vx with
  | bl b => exact ⟨b, rfl, bk1 b H1 μ1 Mon.refl hr1 rfl⟩
  | _ => exact bk1.elim
theorem st_val (ha : PE X a (tE g W ma)) (he : ∀ whole, isTrue a X.env whole = (do let v ← whole; standAt a.pos; holding [v] (truthy v)) := by intro _; rfl) : PT X a (tT g W (mB ma)) :=
  pt_mono (pt_val ha he) fun σ H Q q => bl_of q
theorem st_cmp {op : CmpOp} {r : R2} {f : D → D → MH → R D} (ho : OpR X (compareOp op) r) (hs : S2 g r f) (ha : PE X a (tE g W ma)) (hb : PE X b (tE g W mb)) (hm : behindInMarks op b = false) : PT X (.Compare a [op] [b] pos) (tT g W (mB (mBin f ma mb))) :=
  pt_mono (pt_cmpR ho ha hb hm) fun σ H Q ⟨ρ, h, μ, sr, hr, bk⟩ => by
    refine two (W := W) (f := f) hs ⟨ρ, h, μ, sr, hr, ?_⟩
    refine Bk.bind bk fun a h1 b H1 μ1 _ m hr1 hv bk1 => ?_
    cases hv with
    | bl b => exact ⟨b, rfl, bk1 b H1 μ1 Mon.refl hr1 rfl⟩
    | _ => exact bk1.elim
variable {tm um : MT} {rest : List Expr}
theorem st_not (ha : PT X a (tT g W tm)) : PT X (.UnaryOp .Not a pos) (tT g W (mNot tm)) :=
  pt_mono (pt_not ha) fun σ H Q ⟨ρ, h, μ, sr, hr, bk⟩ => step (rel := fun _ => eqR) (rel' := fun _ => eqR) (ma := tm) (Q' := Q) sr hr bk fun x a h1 H1 μ1 m1 sr1 hr1 vx bk1 => by
    cases vx
    exact bk1 _ H1 μ1 Mon.refl hr1 rfl
theorem sw_and1 (ha : PT X a (tT g W tm)) : PW X (.BoolOp .And [a] pos) (tT g W tm) := pw_and1 ha
theorem sw_or1 (ha : PT X a (tT g W tm)) : PW X (.BoolOp .Or [a] pos) (tT g W tm) := pw_or1 ha
theorem sw_and (ha : PT X a (tT g W tm)) (hb : PW X (.BoolOp .And (b :: rest) pos) (tT g W um)) : PW X (.BoolOp .And (a :: b :: rest) pos) (tT g W (mAnd tm um)) :=
  pw_mono (pw_and ha hb) fun σ H Q ⟨ρ, h, μ, sr, hr, bk⟩ => step (rel := fun _ => eqR) (rel' := fun _ => eqR) (ma := tm) (Q' := Q) sr hr bk fun x a h1 H1 μ1 m1 sr1 hr1 vx bk1 => by
    cases vx
    cases x with
    | true => exact ⟨ρ, h1, μ1, sr1, hr1, bk1⟩
    | false => exact bk1 _ H1 μ1 Mon.refl hr1 rfl
theorem sw_or (ha : PT X a (tT g W tm)) (hb : PW X (.BoolOp .Or (b :: rest) pos) (tT g W um)) : PW X (.BoolOp .Or (a :: b :: rest) pos) (tT g W (mOr tm um)) :=
  pw_mono (pw_or ha hb) fun σ H Q ⟨ρ, h, μ, sr, hr, bk⟩ => step (rel := fun _ => eqR) (rel' := fun _ => eqR) (ma := tm) (Q' := Q) sr hr bk fun x a h1 H1 μ1 m1 sr1 hr1 vx bk1 => by
    cases vx
    cases x with
    | false => exact ⟨ρ, h1, μ1, sr1, hr1, bk1⟩
    | true => exact bk1 _ H1 μ1 Mon.refl hr1 rfl
/-! ### and, or, not as values (of truths) -/
def mAndV (a b : ME) : ME := fun ρ h => (a ρ h).bind fun x h1 => match x with
  | .bl true => b ρ h1
  | .bl false => .ok (.bl false) h1
  | _ => .bad
def mOrV (a b : ME) : ME := fun ρ h => (a ρ h).bind fun x h1 => match x with
  | .bl false => b ρ h1
  | .bl true => .ok (.bl true) h1
  | _ => .bad
def mNotV (a : ME) : ME := fun ρ h => (a ρ h).bind fun x h1 => match x with
  | .bl b => .ok (.bl (!b)) h1
  | _ => .bad
theorem se_one {op : BoolOp} {t : TE} (h : PE X a t) : PE X (.BoolOp op [a] pos) t := pe_one h
theorem se_and (ha : PE X a (tE g W ma)) (hb : PE X (.BoolOp .And (b :: rest) pos) (tE g W mb)) : PE X (.BoolOp .And (a :: b :: rest) pos) (tE g W (mAndV ma mb)) :=
  pe_mono (pe_and ha hb) fun σ H Q ⟨ρ, h, μ, sr, hr, bk⟩ => step (rel := VR) (rel' := VR) (ma := ma) (Q' := Q) sr hr bk fun x a h1 H1 μ1 m1 sr1 hr1 vx bk1 => by
    cases vx with
    | bl b =>
      cases b with
      | true => exact ⟨true, rfl, ρ, h1, μ1, sr1, hr1, bk1⟩
      | false => exact ⟨false, rfl, bk1.val hr1 (.bl false)⟩
    | _ => exact bk1.elim
theorem se_or (ha : PE X a (tE g W ma)) (hb : PE X (.BoolOp .Or (b :: rest) pos) (tE g W mb)) : PE X (.BoolOp .Or (a :: b :: rest) pos) (tE g W (mOrV ma mb)) :=
  pe_mono (pe_or ha hb) fun σ H Q ⟨ρ, h, μ, sr, hr, bk⟩ => step (rel := VR) (rel' := VR) (ma := ma) (Q' := Q) sr hr bk fun x a h1 H1 μ1 m1 sr1 hr1 vx bk1 => by
    cases vx with
    | bl b =>
      cases b with
      | false => exact ⟨false, rfl, ρ, h1, μ1, sr1, hr1, bk1⟩
      | true => exact ⟨true, rfl, bk1.val hr1 (.bl true)⟩
    | _ => exact bk1.elim
theorem se_not (ha : PE X a (tE g W ma)) : PE X (.UnaryOp .Not a pos) (tE g W (mNotV ma)) :=
  pe_mono (pe_not ha) fun σ H Q ⟨ρ, h, μ, sr, hr, bk⟩ => step (rel := VR) (rel' := VR) (ma := ma) (Q' := Q) sr hr bk fun x a h1 H1 μ1 m1 sr1 hr1 vx bk1 => by
    cases vx with
    | bl b => exact ⟨b, rfl, bk1.val hr1 (.bl _)⟩
    | _ => exact bk1.elim
def mIfE (c : MT) (a b : ME) : ME := fun ρ h => (c ρ h).bind fun x h1 => if x = true then a ρ h1 else b ρ h1
theorem se_ifE {c : Expr} (hc : PT X c (tT g W tm)) (ha : PE X a (tE g W ma)) (hb : PE X b (tE g W mb)) : PE X (.IfExp c a b pos) (tE g W (mIfE tm ma mb)) :=
  pe_mono (pe_ifExp hc ha hb) fun σ H Q ⟨ρ, h, μ, sr, hr, bk⟩ => step (rel := fun _ => eqR) (rel' := VR) (ma := tm) (Q' := Q) sr hr bk fun x a h1 H1 μ1 m1 sr1 hr1 vx bk1 => by
    cases vx
    cases x with
    | true => exact ⟨ρ, h1, μ1, sr1, hr1, bk1⟩
    | false => exact ⟨ρ, h1, μ1, sr1, hr1, bk1⟩
end

/-! ### statements -/
def mSkip : MS := fun ρ h => .nx ρ h
def mSeq (a b : MS) : MS := fun ρ h => match a ρ h with
  | .nx ρ' h' => b ρ' h'
  | o => o
def mBreak : MS := fun ρ h => .bk ρ h
def mCont : MS := fun ρ h => .ct ρ h
def mDrop (e : ME) : MS := fun ρ h => (e ρ h).out ρ fun _ h1 => .nx ρ h1
def mRet (e : ME) : MS := fun ρ h => (e ρ h).out ρ fun d h1 => .rt d h1
def mRetN : MS := fun _ h => .rt .non h
def mIf (c : MT) (a b : MS) : MS := fun ρ h => (c ρ h).out ρ fun x h1 => if x = true then a ρ h1 else b ρ h1
def mAsg (i : Nat) (e : ME) : MS := fun ρ h => (e ρ h).out ρ fun d h1 => .nx (ρ.set i (some d)) h1
section
variable {X : Cx} {g : G} {W : WX} {e : Expr} {me : ME} {pos : Pos} {st : Stmt} {rest : List Stmt} {ms mr : MS}
theorem ss_nil : PSs X [] (tS g W mSkip) := pss_mono pss_nil fun E σ H ⟨ρ, h, μ, sr, hr, bk⟩ => bk σ H μ Mon.refl sr hr
theorem seq_of {E : Ends} {σ : St} {H : Hp} (q : tS g W (mSeq ms mr) E σ H) : tSeq (tS g W ms) (tS g W mr) E σ H := by
  obtain ⟨ρ, h, μ, sr, hr, bk⟩ := q
  refine ⟨ρ, h, μ, sr, hr, ?_⟩
  unfold mSeq at bk
  cases e : ms ρ h with
  | nx ρ' h' =>
    rw [e] at bk
    exact fun σ' H' μ' m sr' hr' => ⟨ρ', h', μ', sr', hr', BkS.mono m bk⟩
  | rt d h' => rw [e] at bk; exact bk
  | bk ρ' h' => rw [e] at bk; exact bk
  | ct ρ' h' => rw [e] at bk; exact bk
  | exc x fs ρ' h' => rw [e] at bk; exact bk
  | bad => rw [e] at bk; exact bk
theorem ss_cons (h1 : PS X st (tS g W ms)) (h2 : PSs X rest (tS g W mr)) : PSs X (st :: rest) (tS g W (mSeq ms mr)) := pss_mono (pss_cons h1 h2) fun E σ H q => seq_of q
theorem ss_one (h1 : PS X st (tS g W ms)) : PSs X [st] (tS g W ms) := pss_one h1
theorem sx_pass : PS X (.Pass pos) (tS g W mSkip) := ps_mono ps_pass fun E σ H ⟨ρ, h, μ, sr, hr, bk⟩ => bk σ H μ Mon.refl sr hr
theorem sx_break : PS X (.Break pos) (tS g W mBreak) := ps_mono ps_break fun E σ H ⟨ρ, h, μ, sr, hr, bk⟩ => bk σ H μ Mon.refl sr hr
theorem sx_continue : PS X (.Continue pos) (tS g W mCont) := ps_mono ps_continue fun E σ H ⟨ρ, h, μ, sr, hr, bk⟩ => bk σ H μ Mon.refl sr hr
theorem sx_doc {x : Str} {j : Nat} {pos' : Pos} : PS X (.Expr (.Constant (.str x) j pos) pos') (tS g W mSkip) := ps_mono ps_doc fun E σ H ⟨ρ, h, μ, sr, hr, bk⟩ => bk σ H μ Mon.refl sr hr
theorem sx_expr (he : PE X e (tE g W me)) (hs : swapsWith e none pos.line X.env = pure false := by rfl) : PS X (.Expr e pos) (tS g W (mDrop me)) :=
  ps_mono (ps_expr he hs) fun E σ H ⟨ρ, h, μ, sr, hr, bk⟩ => stepS (rel := VR) (ma := me) (E := E) sr hr bk fun x a h1 H1 μ1 m1 sr1 hr1 vx bk1 => bk1 σ H1 μ1 Mon.refl sr1 hr1
theorem sx_ret (he : PE X e (tE g W me)) : PS X (.Return (some e) pos) (tS g W (mRet me)) :=
  ps_mono (ps_ret he) fun E σ H ⟨ρ, h, μ, sr, hr, bk⟩ => stepS (rel := VR) (ma := me) (E := E) sr hr bk fun x a h1 H1 μ1 m1 sr1 hr1 vx bk1 => bk1 x H1 μ1 Mon.refl hr1 vx
theorem sx_retN : PS X (.Return none pos) (tS g W mRetN) := ps_mono ps_retN fun E σ H ⟨ρ, h, μ, sr, hr, bk⟩ => bk .non H μ Mon.refl hr .non
theorem sx_if {c : Expr} {a b : List Stmt} {tm : MT} (hc : PT X c (tT g W tm)) (ha : PSs X a (tS g W ms)) (hb : PSs X b (tS g W mr)) : PS X (.If c a b pos) (tS g W (mIf tm ms mr)) :=
  ps_mono (ps_if hc ha hb) fun E σ H ⟨ρ, h, μ, sr, hr, bk⟩ => stepS (rel := fun _ => eqR) (ma := tm) (E := E) sr hr bk fun x a h1 H1 μ1 m1 sr1 hr1 vx bk1 => by
    cases vx
    cases x with
    | true => exact ⟨ρ, h1, μ1, sr1, hr1, bk1⟩
    | false => exact ⟨ρ, h1, μ1, sr1, hr1, bk1⟩
theorem sx_set {i : Nat} {x : Str} {pos' : Pos} (he : PE X e (tE g W me)) (hN : X.N.Nodup) (hi : X.N[i]? = some x := by rfl) (hx : Loc X.env.scope x := by first | exact Or.inl rfl | exact Or.inr rfl) (hs : swapsWith e (some (.Name x pos')) pos.line X.env = pure false := by rfl)
    (hf : X.fn x = true ∨ X.env.scope.names.lookup x = some .local := by first | exact .inl rfl | exact .inr rfl | assumption) : PS X (.Assign [.Name x pos'] e pos) (tS g W (mAsg i me)) :=
  ps_mono (ps_set hN hi hx he hs hf) fun E σ H ⟨ρ, h, μ, sr, hr, bk⟩ => stepS (rel := VR) (ma := me) (E := E) sr hr bk fun v d h1 H1 μ1 m1 sr1 hr1 vx bk1 => bk1 _ H1 μ1 Mon.refl (sr1.set i vx) hr1
end
end Mi

namespace Mi
open PySem L2

/-! ### operators by values -/
def dAdd : D → D → MH → R D
  | .int i, .int j, h => .ok (.int (i + j)) h
  | .str x, .str y, h => if x.length + y.length ≤ 1000000 then .ok (.str (x ++ y)) h else .bad
  | .tup a, .tup b, h => if a.length + b.length ≤ 1000000 then .ok (.tup (a ++ b)) h else .bad
  | .ref i, .ref j, h => match h[i]?, h[j]? with
    | some (.lst a), some (.lst b) => if a.length + b.length ≤ 1000000 then .ok (.ref h.length) (h ++ [.lst (a ++ b)]) else .bad
    | _, _ => .bad
  | _, _, _ => .bad
def dSub : D → D → MH → R D
  | .int i, .int j, h => .ok (.int (i - j)) h
  | _, _, _ => .bad
def dMul : D → D → MH → R D
  | .int i, .int j, h => if (Builtin.Int.intBits i : Int) + (Builtin.Int.intBits j : Int) ≤ 134217728 then .ok (.int (i * j)) h else .bad
  | .str x, .int n, h => if n ≤ 1000000 ∧ -1000000 ≤ n ∧ x.length * n.toNat ≤ 1000000 then .ok (.str (Txt.mul x n)) h else .bad
  | _, _, _ => .bad
def dFdiv : D → D → MH → R D
  | .int i, .int j, h => if 0 < j ∧ j.natAbs.log2 < 9000 then .ok (.int (i / j)) h else .bad
  | _, _, _ => .bad
def dMod : D → D → MH → R D
  | .int i, .int j, h => if 0 < j then .ok (.int (i % j)) h else .bad
  | _, _, _ => .bad
def dPow : D → D → MH → R D
  | .int i, .int j, h => if 0 ≤ j ∧ j ≤ 1000000 ∧ i.natAbs < 2 ^ 64 then .ok (.int (i ^ j.toNat)) h else .bad
  | _, _, _ => .bad
def dShl : D → D → MH → R D
  | .int i, .int j, h => if 0 ≤ j ∧ j ≤ 1000000 ∧ i.natAbs < 2 ^ 64 then .ok (.int (i * 2 ^ j.toNat)) h else .bad
  | _, _, _ => .bad
def dBand : D → D → MH → R D
  | .int i, .int j, h => .ok (.int (Builtin.bitAnd i j)) h
  | _, _, _ => .bad
def dBor : D → D → MH → R D
  | .int i, .int j, h => .ok (.int (Builtin.bitOr i j)) h
  | _, _, _ => .bad
def dLt : D → D → MH → R D
  | .int i, .int j, h => .ok (.bl (decide (i < j))) h
  | _, _, _ => .bad
def dLe : D → D → MH → R D
  | .int i, .int j, h => .ok (.bl (decide (i ≤ j))) h
  | _, _, _ => .bad
def dGt : D → D → MH → R D
  | .int i, .int j, h => .ok (.bl (decide (j < i))) h
  | _, _, _ => .bad
def dGe : D → D → MH → R D
  | .int i, .int j, h => .ok (.bl (decide (j ≤ i))) h
  | _, _, _ => .bad
def dNeg : D → MH → R D
  | .int i, h => .ok (.int (-i)) h
  | _, _ => .bad

section
variable {g : G} {X : Cx}
theorem s2_int {C : Int → Int → Prop} [∀ i j, Decidable (C i j)] {o : Int → Int → Int} {f : D → D → MH → R D} (hi : ∀ i j h, f (.int i) (.int j) h = if C i j then .ok (.int (o i j)) h else .bad) (hb : ∀ a b h, (∀ i j, ¬ (a = .int i ∧ b = .int j)) → f a b h = .bad) :
    S2 g (rI C fun i j => .int (o i j)) f := by
  intro H μ h x y a b Q W hr vx vy bk
  have no : (∀ i j, ¬ (a = .int i ∧ b = .int j)) → rI C (fun i j => .int (o i j)) x y H Q := fun z => by rw [hb a b h z] at bk; exact bk.elim
  cases vx with
  | int i =>
    cases vy with
    | int j =>
      rw [hi] at bk
      by_cases c : C i j
      · rw [if_pos c] at bk
        exact ⟨i, j, rfl, rfl, c, bk.val hr (.int _)⟩
      · rw [if_neg c] at bk; exact bk.elim
    | _ => exact no fun _ _ z => nomatch z.2
  | _ => exact no fun _ _ z => nomatch z.1
theorem s2_int0 {o : Int → Int → V} {o' : Int → Int → D} {f : D → D → MH → R D} (hi : ∀ i j h, f (.int i) (.int j) h = .ok (o' i j) h) (hv : ∀ H μ i j, VR g H μ (o i j) (o' i j)) (hb : ∀ a b h, (∀ i j, ¬ (a = .int i ∧ b = .int j)) → f a b h = .bad) :
    S2 g (rI0 o) f := by
  intro H μ h x y a b Q W hr vx vy bk
  have no : (∀ i j, ¬ (a = .int i ∧ b = .int j)) → rI0 o x y H Q := fun z => by rw [hb a b h z] at bk; exact bk.elim
  cases vx with
  | int i =>
    cases vy with
    | int j =>
      rw [hi] at bk
      exact ⟨i, j, rfl, rfl, bk.val hr (hv _ _ _ _)⟩
    | _ => exact no fun _ _ z => nomatch z.2
  | _ => exact no fun _ _ z => nomatch z.1
theorem int_bad {f : D → D → MH → R D} (hf : ∀ (a b : D) (h : MH), (match a, b with | D.int _, D.int _ => True | _, _ => f a b h = .bad)) : ∀ a b h, (∀ i j, ¬ (a = .int i ∧ b = .int j)) → f a b h = .bad := fun a b h z => by
  have := hf a b h
  split at this
  · exact absurd ⟨rfl, rfl⟩ (z _ _)
  · exact this
theorem s2_sub : S2 g (rI0 fun i j => .int (i - j)) dSub := s2_int0 (o' := fun i j => .int (i - j)) (fun _ _ _ => rfl) (fun _ _ _ _ => .int _) (int_bad fun a b h => by cases a <;> cases b <;> first | trivial | rfl)
theorem s2_fdiv : S2 g (rI CDivW fun i j => .int (i / j)) dFdiv := s2_int (C := fun i j => 0 < j ∧ j.natAbs.log2 < 9000) (o := fun i j => i / j) (fun _ _ _ => rfl) (int_bad fun a b h => by cases a <;> cases b <;> first | trivial | rfl)
theorem s2_mod : S2 g (rI (fun _ j => 0 < j) fun i j => .int (i % j)) dMod := s2_int (C := fun i j => 0 < j) (o := fun i j => i % j) (fun _ _ _ => rfl) (int_bad fun a b h => by cases a <;> cases b <;> first | trivial | rfl)
theorem s2_pow : S2 g (rI CPow fun i j => .int (i ^ j.toNat)) dPow := s2_int (C := fun i j => 0 ≤ j ∧ j ≤ 1000000 ∧ i.natAbs < 2 ^ 64) (o := fun i j => i ^ j.toNat) (fun _ _ _ => rfl) (int_bad fun a b h => by cases a <;> cases b <;> first | trivial | rfl)
theorem s2_shl : S2 g (rI CPow fun i j => .int (i * 2 ^ j.toNat)) dShl := s2_int (C := fun i j => 0 ≤ j ∧ j ≤ 1000000 ∧ i.natAbs < 2 ^ 64) (o := fun i j => i * 2 ^ j.toNat) (fun _ _ _ => rfl) (int_bad fun a b h => by cases a <;> cases b <;> first | trivial | rfl)
theorem s2_band : S2 g (rI0 fun i j => .int (Builtin.bitAnd i j)) dBand := s2_int0 (o' := fun i j => .int (Builtin.bitAnd i j)) (fun _ _ _ => rfl) (fun _ _ _ _ => .int _) (int_bad fun a b h => by cases a <;> cases b <;> first | trivial | rfl)
theorem s2_bor : S2 g (rI0 fun i j => .int (Builtin.bitOr i j)) dBor := s2_int0 (o' := fun i j => .int (Builtin.bitOr i j)) (fun _ _ _ => rfl) (fun _ _ _ _ => .int _) (int_bad fun a b h => by cases a <;> cases b <;> first | trivial | rfl)
theorem s2_lt : S2 g (rI0 fun i j => .bl (decide (i < j))) dLt := s2_int0 (o' := fun i j => .bl (decide (i < j))) (fun _ _ _ => rfl) (fun _ _ _ _ => .bl _) (int_bad fun a b h => by cases a <;> cases b <;> first | trivial | rfl)
theorem s2_le : S2 g (rI0 fun i j => .bl (decide (i ≤ j))) dLe := s2_int0 (o' := fun i j => .bl (decide (i ≤ j))) (fun _ _ _ => rfl) (fun _ _ _ _ => .bl _) (int_bad fun a b h => by cases a <;> cases b <;> first | trivial | rfl)
theorem s2_gt : S2 g (rI0 fun i j => .bl (decide (j < i))) dGt := s2_int0 (o' := fun i j => .bl (decide (j < i))) (fun _ _ _ => rfl) (fun _ _ _ _ => .bl _) (int_bad fun a b h => by cases a <;> cases b <;> first | trivial | rfl)
theorem s2_ge : S2 g (rI0 fun i j => .bl (decide (j ≤ i))) dGe := s2_int0 (o' := fun i j => .bl (decide (j ≤ i))) (fun _ _ _ => rfl) (fun _ _ _ _ => .bl _) (int_bad fun a b h => by cases a <;> cases b <;> first | trivial | rfl)
theorem s1_neg : S1 g (rU fun i => .int (-i)) dNeg := by
  intro H μ h x a Q W hr vx bk
  cases vx with
  | int i => exact ⟨i, rfl, bk.val hr (.int _)⟩
  | _ => exact bk.elim
/-- + -/
def rAddA (K : PySem.W.Frag) : R2 := fun x y H Q => (rI0 (fun i j => .int (i + j)) x y H Q ∨ (∃ i j, x = .str i ∧ y = .str j ∧ i.length + j.length ≤ sizeLine ∧ Q (.str (i ++ j)) H)) ∨ (rCatF K x y H Q ∨ rCat x y H Q)
theorem op_addA : OpR X (binaryOp .Add) (rAddA X.K) := (op_add.or op_add_str).or (op_catF.or op_cat)
theorem nil_of_vrs {H : Hp} {μ : List Addr} {xs : List V} {ds : List D} (h : VRs g H μ xs ds) (e : xs = []) : ds = [] := by subst e; cases h; rfl
theorem s2_add : S2 g (rAddA g.K) dAdd := by
  intro H μ h x y a b Q W hr vx vy bk
  cases vx with
  | int i =>
    cases vy with
    | int j => exact .inl (.inl ⟨i, j, rfl, rfl, bk.val hr (.int _)⟩)
    | _ => exact bk.elim
  | str i =>
    cases vy with
    | str j =>
      simp only [dAdd] at bk
      split at bk
      · rename_i hl
        exact .inl (.inr ⟨i, j, rfl, rfl, sz6 hl, bk.val hr (.str _)⟩)
      · exact bk.elim
    | _ => exact bk.elim
  | @tup p xs ds hs vs =>
    cases vy with
    | @tup q ys es ht vt =>
      simp only [dAdd] at bk
      split at bk
      · rename_i hl
        refine .inr (.inl ⟨p, q, xs, ys, rfl, rfl, hs.sq, ht.sq, by rw [vs.length, vt.length]; exact sz6 hl, fun e => ?_, fun e e' => ?_, fun e e' r ob hr' ho => ?_⟩)
        · rw [nil_of_vrs vs e] at bk
          exact bk.val hr (.tup ht vt)
        · rw [nil_of_vrs vt e', List.append_nil] at bk
          exact bk.val hr (.tup hs vs)
        · exact bk.newT hr (vs.append vt) hr' ho
      · exact bk.elim
    | _ => exact bk.elim
  | @ref p i hi =>
    cases vy with
    | @ref q j hj =>
      simp only [dAdd] at bk
      split at bk
      · rename_i l1 l2 e1 e2
        obtain ⟨xs, h1, v1⟩ := hr.lst hi e1
        obtain ⟨ys, h2, v2⟩ := hr.lst hj e2
        split at bk
        · rename_i hl
          exact .inr (.inr ⟨p, q, xs, ys, rfl, rfl, h1, h2, by rw [v1.length, v2.length]; exact sz6 hl, fun r hr' => bk.newL hr (v1.append v2) hr'⟩)
        · exact bk.elim
      · exact bk.elim
    | _ => exact bk.elim
  | _ => exact bk.elim
/-- * -/
theorem op_mul_str : OpR X (binaryOp .Mult) (fun x y H Q => ∃ z n, x = .str z ∧ y = .int n ∧ MulOk z n ∧ Q (.str (Txt.mul z n)) H) := by
  intro pins s σ H x y v u Q I rx ry h
  obtain ⟨z, n, rfl, rfl, hok, q⟩ := h
  obtain ⟨t, rfl⟩ := rx
  obtain ⟨t', rfl⟩ := ry
  exact PySem.SB.mul hok fun t' k => ⟨.str _, H, I.tok k, ⟨t', rfl⟩, q⟩
def rMulA : R2 := fun x y H Q => rI CMulX (fun i j => .int (i * j)) x y H Q ∨ (∃ z n, x = .str z ∧ y = .int n ∧ MulOk z n ∧ Q (.str (Txt.mul z n)) H)
theorem op_mulA : OpR X (binaryOp .Mult) rMulA := op_mulX.or op_mul_str
theorem mulOk_of {z : Str} {n : Int} (h1 : n ≤ 1000000) (h2 : -1000000 ≤ n) (h3 : z.length * n.toNat ≤ 1000000) : MulOk z n := by
  refine ⟨?_, fun a b => ?_, fun a b => ?_⟩
  · rw [decide_eq_false (by omega), decide_eq_false (by omega)]; rfl
  · have hz : z.length ≤ 1000000 := Nat.le_trans (Nat.le_mul_of_pos_right _ (by omega)) h3
    have : (2 ^ 63 - 1 : Int) / n ≥ (2 ^ 63 - 1) / 1000000 := by
      have h0 : 0 < n := by omega
      rw [ge_iff_le, Int.le_ediv_iff_mul_le h0]
      have : (2 ^ 63 - 1 : Int) / 1000000 * n ≤ (2 ^ 63 - 1 : Int) / 1000000 * 1000000 := Int.mul_le_mul_of_nonneg_left h1 (by decide)
      exact Int.le_trans this (by decide)
    have h4 : ((2 ^ 63 - 1 : Int)) / 1000000 ≥ 1000000 := by decide
    omega
  · unfold Builtin.Str.tooLong
    simp only [decide_eq_false_iff_not]
    first
      | (show ¬ (z.length * n.toNat > sizeLine); rw [sizeLine_eq]; omega)
      | (rw [decide_eq_false_iff_not, sizeLine_eq]; omega)
      | (simp; omega)
theorem s2_mul : S2 g rMulA dMul := by
  intro H μ h x y a b Q W hr vx vy bk
  cases vx with
  | int i =>
    cases vy with
    | int j =>
      simp only [dMul] at bk
      split at bk
      · rename_i c
        exact .inl ⟨i, j, rfl, rfl, c, bk.val hr (.int _)⟩
      · exact bk.elim
    | _ => exact bk.elim
  | str z =>
    cases vy with
    | int n =>
      simp only [dMul] at bk
      split at bk
      · rename_i c
        exact .inr ⟨z, n, rfl, rfl, mulOk_of c.1 c.2.1 c.2.2, bk.val hr (.str _)⟩
      · exact bk.elim
    | _ => exact bk.elim
  | _ => exact bk.elim
end

/-! ### ==, != -/
def allSome {α : Type} : List (Option α) → Option (List α)
  | [] => some []
  | none :: _ => none
  | some a :: r => (allSome r).map (a :: ·)
def pyOf : Nat → MH → D → Option PyData
  | 0, _, _ => none
  | _ + 1, _, .non => some .none
  | _ + 1, _, .bl b => some (.bool b)
  | _ + 1, _, .int i => some (.int i)
  | _ + 1, _, .str x => some (.str x)
  | n + 1, h, .tup l => (allSome (l.map (pyOf n h))).map .tuple
  | n + 1, h, .ref i => (getL h i).bind fun l => (allSome (l.map (pyOf n h))).map .list
  | _ + 1, _, .xo _ _ _ => none
section
variable {g : G} {X : Cx} {H : Hp} {μ : List Addr} {h : MH}
theorem dp_all {f : D → Option PyData} (hf : ∀ d v e, VR g H μ v d → f d = some e → Dp g.K H v e) : ∀ {xs : List V} {ds : List D} {es : List PyData}, VRs g H μ xs ds → allSome (ds.map f) = some es → DpAll g.K H xs es
  | _, _, _, .nil, e => by
    simp only [List.map_nil, allSome, Option.some.injEq] at e
    subst e
    exact .nil
  | _, _, _, .cons (d := d) a b, e => by
    rw [List.map_cons] at e
    cases q : f d with
    | none => rw [q] at e; simp [allSome] at e
    | some z =>
      rw [q] at e
      simp only [allSome, Option.map_eq_some_iff] at e
      obtain ⟨r, e1, rfl⟩ := e
      exact .cons (hf _ _ _ a q) (dp_all hf b e1)
theorem dp_of (hr : HR g H μ h) : ∀ (n : Nat) (d : D) (v : V) (e : PyData), VR g H μ v d → pyOf n h d = some e → Dp g.K H v e
  | 0, _, _, _, _, q => by cases q
  | n + 1, d, v, e, a, q => by
    cases a with
    | xo _ _ _ _ => cases q
    | non => cases q; exact .non
    | bl b => cases q; exact .bl b
    | int b => cases q; exact .int b
    | str b => cases q; exact .str b
    | tup hs vs =>
      simp only [pyOf, Option.map_eq_some_iff] at q
      obtain ⟨es, q, rfl⟩ := q
      exact .tup hs.sq (dp_all (fun d v e a q => dp_of hr n d v e a q) vs q)
    | ref hi =>
      simp only [pyOf, Option.bind_eq_some_iff, Option.map_eq_some_iff] at q
      obtain ⟨l, q1, es, q2, rfl⟩ := q
      obtain ⟨xs, hs, vs⟩ := hr.list hi q1
      exact .lst hs (dp_all (fun d v e a q => dp_of hr n d v e a q) vs q2)
def scalD : D → D → Bool
  | .non, .non => true | .non, .int _ => true | .int _, .non => true | .non, .bl _ => true | .bl _, .non => true | .non, .str _ => true | .str _, .non => true
  | .int _, .int _ => true | .bl _, .bl _ => true | .str _, .str _ => true
  | .int _, .str _ => true | .str _, .int _ => true | .bl _, .str _ => true | .str _, .bl _ => true
  | _, _ => false
def eqD (a b : D) (h : MH) : Option Bool := if scalD a b = true then some (decide (a = b)) else match pyOf 60 h a, pyOf 60 h b with
  | some d, some e => if SeqAt.shaped d = true ∧ SeqAt.shaped e = true then some (PyData.eqv d e) else none
  | _, _ => none
/-- two dicts without pairs -/
def no2 (a b : D) (h : MH) : Bool := match a, b with
  | .ref i, .ref j => decide (h[i]? = some (.dK [])) && decide (h[j]? = some (.dK []))
  | _, _ => false
/-- two tuples, one without items -/
def emp2 (a b : D) : Option Bool := match a, b with
  | .tup l, .tup m => if l = [] ∨ m = [] then some (decide (l.length = m.length)) else none
  | _, _ => none
def dEq (a b : D) (h : MH) : R D := match eqD a b h with
  | some k => .ok (.bl k) h
  | none => match emp2 a b with
    | some k => .ok (.bl k) h
    | none => if no2 a b h = true then .ok (.bl true) h else .bad
def dNe (a b : D) (h : MH) : R D := match eqD a b h with
  | some k => .ok (.bl (!k)) h
  | none => match emp2 a b with
    | some k => .ok (.bl (!k)) h
    | none => .bad
def rEqE (K : PySem.W.Frag) : R2 := fun x y H Q => ∃ a b xs ys, x = .ref a ∧ y = .ref b ∧ SqT K H a xs ∧ SqT K H b ys ∧ (xs = [] ∨ ys = []) ∧ Q (.bl (decide (xs.length = ys.length))) H
def rNeE (K : PySem.W.Frag) : R2 := fun x y H Q => ∃ a b xs ys, x = .ref a ∧ y = .ref b ∧ SqT K H a xs ∧ SqT K H b ys ∧ (xs = [] ∨ ys = []) ∧ Q (.bl (!decide (xs.length = ys.length))) H
theorem emp_ev {us ws : Array Value} {n m : Nat} (h1 : us.size = n) (h2 : ws.size = m) (h0 : n = 0 ∨ m = 0) : ((List.range (min us.size ws.size)).all (fun _ => true) && us.size == ws.size) = decide (n = m) := by
  subst h1 h2
  have : min us.size ws.size = 0 := by omega
  rw [this]
  simp only [List.range_zero, List.all_nil, Bool.true_and]
  rw [Bool.eq_iff_iff, beq_iff_eq, decide_eq_true_iff]
theorem op_eqE (hu : X.A.units + 64 < cLine) : OpR X (compareOp .Eq) (rEqE X.K) := by
  intro pins s σ H x y v u Q I rx ry hh
  obtain ⟨a, b, xs, ys, rfl, rfl, ha, hb, h0, q⟩ := hh
  cases rx
  cases ry
  obtain ⟨ws1, r1, p1, _⟩ := I.tuple ha
  obtain ⟨ws2, r2, p2, _⟩ := I.tuple hb
  have l1 : ws1.toArray.size = xs.length := by rw [List.size_toArray]; exact r1.length.symm
  have l2 : ws2.toArray.size = ys.length := by rw [List.size_toArray]; exact r2.length.symm
  have h00 : xs.length = 0 ∨ ys.length = 0 := by
    rcases h0 with z | z
    · exact .inl (by rw [z]; rfl)
    · exact .inr (by rw [z]; rfl)
  refine SeqAt.eq_tupleAt (e := fun _ => true) p1 p2 (by omega) (fun j j1 j2 => by omega) ?_
  rw [emp_ev l1 l2 h00]
  exact ⟨.bl _, H, I, rfl, q⟩
theorem op_neE (hu : X.A.units + 64 < cLine) : OpR X (compareOp .NotEq) (rNeE X.K) := by
  intro pins s σ H x y v u Q I rx ry hh
  obtain ⟨a, b, xs, ys, rfl, rfl, ha, hb, h0, q⟩ := hh
  cases rx
  cases ry
  obtain ⟨ws1, r1, p1, _⟩ := I.tuple ha
  obtain ⟨ws2, r2, p2, _⟩ := I.tuple hb
  have l1 : ws1.toArray.size = xs.length := by rw [List.size_toArray]; exact r1.length.symm
  have l2 : ws2.toArray.size = ys.length := by rw [List.size_toArray]; exact r2.length.symm
  have h00 : xs.length = 0 ∨ ys.length = 0 := by
    rcases h0 with z | z
    · exact .inl (by rw [z]; rfl)
    · exact .inr (by rw [z]; rfl)
  refine SeqAt.RcNeAt.tuples (e := fun _ => true) p1 p2 (by omega) (fun j j1 j2 => by omega) _ _ _ _ ?_
  rw [emp_ev l1 l2 h00]
  exact ⟨.bl _, H, I, rfl, q⟩
def rEqA (K : PySem.W.Frag) : R2 := fun x y H Q => rEq x y H Q ∨ (rEqD K x y H Q ∨ (rEqV K x y H Q ∨ rEqE K x y H Q))
def rNeA (K : PySem.W.Frag) : R2 := fun x y H Q => rNe x y H Q ∨ (rNeD K x y H Q ∨ rNeE K x y H Q)
theorem op_eqA (hu : X.A.units + 65 < cLine) : OpR X (compareOp .Eq) (rEqA X.K) := op_eq.or ((op_eqD (by omega)).or ((op_eqV (by omega)).or (op_eqE (by omega))))
theorem op_neA (hu : X.A.units + 65 < cLine) : OpR X (compareOp .NotEq) (rNeA X.K) := op_ne.or ((op_neD (by omega)).or (op_neE (by omega)))
theorem scal_of {x y : V} {a b : D} (vx : VR g H μ x a) (vy : VR g H μ y b) (e : scalD a b = true) : scal x y = true ∧ decide (x = y) = decide (a = b) := by
  cases vx <;> cases vy <;> first | (cases e; done) | (refine ⟨rfl, ?_⟩; simp)
theorem eq_of {x y : V} {a b : D} {k : Bool} (hr : HR g H μ h) (vx : VR g H μ x a) (vy : VR g H μ y b) (e : eqD a b h = some k) :
    (scal x y = true ∧ decide (x = y) = k) ∨ ∃ d e, Dp g.K H x d ∧ Dp g.K H y e ∧ SeqAt.shaped d = true ∧ SeqAt.shaped e = true ∧ PyData.eqv d e = k := by
  unfold eqD at e
  split at e
  · rename_i s
    obtain ⟨h1, h2⟩ := scal_of vx vy s
    cases e
    exact .inl ⟨h1, h2⟩
  · split at e
    · rename_i d e' q1 q2
      split at e
      · rename_i s
        cases e
        exact .inr ⟨d, e', dp_of hr _ _ _ _ vx q1, dp_of hr _ _ _ _ vy q2, s.1, s.2, rfl⟩
      · cases e
    · cases e
theorem s2_eq : S2 g (rEqA g.K) dEq := by
  intro H μ h x y a b Q W hr vx vy bk
  unfold dEq at bk
  split at bk
  · rename_i k e
    rcases eq_of hr vx vy e with ⟨h1, h2⟩ | ⟨d, e, h1, h2, h3, h4, h5⟩
    · exact .inl ⟨h1, by rw [h2]; exact bk.val hr (.bl _)⟩
    · exact .inr (.inl ⟨d, e, h1, h2, h3, h4, by rw [h5]; exact bk.val hr (.bl _)⟩)
  · split at bk
    · rename_i k q
      unfold emp2 at q
      split at q
      · rename_i l m
        split at q
        · rename_i z
          cases q
          cases vx with
          | tup hs vs =>
            cases vy with
            | tup ht ws =>
              refine .inr (.inr (.inr ⟨_, _, _, _, rfl, rfl, hs.sq, ht.sq, ?_, ?_⟩))
              · rcases z with z | z
                · subst z; cases vs; exact .inl rfl
                · subst z; cases ws; exact .inr rfl
              · rw [vs.length, ws.length]; exact bk.val hr (.bl _)
        · cases q
      · cases q
    · split at bk
      · rename_i q
        unfold no2 at q
        split at q
        · rename_i i j
          obtain ⟨q1, q2⟩ := Bool.and_eq_true_iff.mp q
          cases vx with
          | ref hi =>
            cases vy with
            | ref hj =>
              obtain ⟨k1, e1, r1⟩ := hr.ob _ _ _ hi (of_decide_eq_true q1)
              obtain ⟨k2, e2, r2⟩ := hr.ob _ _ _ hj (of_decide_eq_true q2)
              cases r1
              cases r2
              exact .inr (.inr (.inl ⟨1, by decide, .inr ⟨_, _, [], [], rfl, rfl, e1, e2, rfl, fun p hp => by simp at hp⟩, bk.val hr (.bl true)⟩))
        · cases q
      · exact bk.elim
theorem s2_ne : S2 g (rNeA g.K) dNe := by
  intro H μ h x y a b Q W hr vx vy bk
  unfold dNe at bk
  split at bk
  · rename_i k e
    rcases eq_of hr vx vy e with ⟨h1, h2⟩ | ⟨d, e, h1, h2, h3, h4, h5⟩
    · exact .inl ⟨h1, by rw [h2]; exact bk.val hr (.bl _)⟩
    · exact .inr (.inl ⟨d, e, h1, h2, h3, h4, by rw [h5]; exact bk.val hr (.bl _)⟩)
  · split at bk
    · rename_i k q
      unfold emp2 at q
      split at q
      · rename_i l m
        split at q
        · rename_i z
          cases q
          cases vx with
          | tup hs vs =>
            cases vy with
            | tup ht ws =>
              refine .inr (.inr ⟨_, _, _, _, rfl, rfl, hs.sq, ht.sq, ?_, ?_⟩)
              · rcases z with z | z
                · subst z; cases vs; exact .inl rfl
                · subst z; cases ws; exact .inr rfl
              · rw [vs.length, ws.length]; exact bk.val hr (.bl _)
        · cases q
      · cases q
    · exact bk.elim
/-! ### is None -/
def dIsN : D → D → MH → R D
  | a, .non, h => .ok (.bl (decide (a = .non))) h
  | _, _, _ => .bad
def dNotN : D → D → MH → R D
  | a, .non, h => .ok (.bl (!decide (a = .non))) h
  | _, _, _ => .bad
theorem non_of {x : V} {a : D} (vx : VR g H μ x a) : decide (x = .non) = decide (a = .non) := by cases vx <;> simp
theorem s2_isN : S2 g (fun x y H Q => y = .non ∧ Q (.bl (decide (x = .non))) H) dIsN := by
  intro H μ h x y a b Q W hr vx vy bk
  cases vy with
  | non => exact ⟨rfl, by rw [non_of vx]; exact bk.val hr (.bl _)⟩
  | _ => simp only [dIsN] at bk; exact bk.elim
theorem s2_notN : S2 g (fun x y H Q => y = .non ∧ Q (.bl (!decide (x = .non))) H) dNotN := by
  intro H μ h x y a b Q W hr vx vy bk
  cases vy with
  | non => exact ⟨rfl, by rw [non_of vx]; exact bk.val hr (.bl _)⟩
  | _ => simp only [dNotN] at bk; exact bk.elim
/-! ### in -/
def flatD : D → Bool
  | .non => true | .bl _ => true | .int _ => true | .str _ => true | _ => false
def eqF : D → D → Bool
  | .non, .non => true
  | .bl a, .bl b => a == b
  | .bl a, .int b => (if a then 1 else 0) == b
  | .int a, .bl b => a == (if b then 1 else 0)
  | .int a, .int b => a == b
  | .str a, .str b => a == b
  | _, _ => false
def seqOf (h : MH) : D → Option (List D)
  | .tup l => some l
  | .ref i => getL h i
  | _ => none
/-- x in y: a sign in a text, a flat thing in a list or tuple of such, a nested one in a list -/
def inD (a b : D) (h : MH) : Option Bool := match a, b with
  | .str x, .str z => match x.cps.toList with
    | [c] => some (decide (c ∈ z.cps.toList))
    | _ => none
  | a, b => match seqOf h b with
    | some l => if flatD a = true ∧ l.all flatD = true then some (l.any fun y => eqF y a) else match pyOf 60 h a, pyOf 60 h b with
      | some d, some (.list es) => if SeqAt.shaped d = true ∧ SeqAt.shaped (.list es) = true then some (es.any fun z => PyData.eqv z d) else none
      | _, _ => none
    | none => none
def dIn (a b : D) (h : MH) : R D := match inD a b h with
  | some k => .ok (.bl k) h
  | none => .bad
def dNotIn (a b : D) (h : MH) : R D := match inD a b h with
  | some k => .ok (.bl (!k)) h
  | none => .bad
def rInA (K : PySem.W.Frag) : R2 := fun x y H Q => (∃ (c : Nat) (z : Str), x = .str ⟨#[c]⟩ ∧ y = .str z ∧ Q (.bl (decide (c ∈ z.cps.toList))) H) ∨ (rIn K false x y H Q ∨ rInD K x y H Q)
def rNotInA (K : PySem.W.Frag) : R2 := fun x y H Q => (∃ (c : Nat) (z : Str), x = .str ⟨#[c]⟩ ∧ y = .str z ∧ Q (.bl (!decide (c ∈ z.cps.toList))) H) ∨ (rIn K true x y H Q ∨ rNotInD K x y H Q)
theorem op_inA (hu : X.A.units + 65 < cLine) : OpR X (compareOp .In) (rInA X.K) := op_in_sign.or (op_in_seq.or (op_inD hu))
theorem op_notInA (hu : X.A.units + 65 < cLine) : OpR X (compareOp .NotIn) (rNotInA X.K) := op_notIn_sign.or (op_notIn_seq.or (op_notInD hu))
theorem flat_of {x : V} {a : D} (vx : VR g H μ x a) : flatV x = flatD a := by cases vx <;> rfl
theorem flats_of : ∀ {xs : List V} {ds : List D}, VRs g H μ xs ds → xs.all flatV = ds.all flatD
  | _, _, .nil => rfl
  | _, _, .cons a b => by rw [List.all_cons, List.all_cons, flat_of a, flats_of b]
theorem eqF_of {x y : V} {a b : D} (vx : VR g H μ x a) (vy : VR g H μ y b) : eqV x y = eqF a b := by cases vx <;> cases vy <;> rfl
theorem any_of {x : V} {a : D} (vx : VR g H μ x a) : ∀ {xs : List V} {ds : List D}, VRs g H μ xs ds → inV x xs = ds.any fun y => eqF y a
  | _, _, .nil => rfl
  | _, _, .cons c b => by
    show (eqV _ x || inV x _) = _
    rw [List.any_cons, eqF_of c vx, any_of vx b]
theorem HR.seq {p : Addr} {b : D} {l : List D} (hr : HR g H μ h) (vb : VR g H μ (.ref p) b) (e : seqOf h b = some l) : ∃ xs, (SqL g.K H p xs ∨ SqT g.K H p xs) ∧ VRs g H μ xs l := by
  cases vb with
  | ref hi => obtain ⟨xs, h1, h2⟩ := hr.list hi e; exact ⟨xs, .inl h1, h2⟩
  | tup hs vs => cases e; exact ⟨_, .inr hs.sq, vs⟩
  | xo _ _ _ _ => cases e
theorem in_of {x y : V} {a b : D} {k : Bool} (hr : HR g H μ h) (vx : VR g H μ x a) (vy : VR g H μ y b) (e : inD a b h = some k) :
    (∃ (c : Nat) (z : Str), x = .str ⟨#[c]⟩ ∧ y = .str z ∧ decide (c ∈ z.cps.toList) = k) ∨ (∃ p xs, y = .ref p ∧ (SqL g.K H p xs ∨ SqT g.K H p xs) ∧ flatV x = true ∧ xs.all flatV = true ∧ inV x xs = k) ∨
      ∃ d ds, Dp g.K H x d ∧ Dp g.K H y (.list ds) ∧ SeqAt.shaped d = true ∧ SeqAt.shaped (.list ds) = true ∧ (ds.any fun z => PyData.eqv z d) = k := by
  unfold inD at e
  split at e
  · rename_i x' z
    cases vx
    cases vy
    split at e
    · rename_i c q
      cases e
      refine .inl ⟨c, z, ?_, rfl, rfl⟩
      obtain ⟨⟨cs⟩⟩ := x'
      cases q
      rfl
    · cases e
  · split at e
    · rename_i l q
      have hy : ∃ p, y = .ref p := by cases vy <;> first | exact ⟨_, rfl⟩ | cases q
      obtain ⟨p, rfl⟩ := hy
      obtain ⟨xs, h1, h2⟩ := hr.seq vy q
      split at e
      · rename_i c
        cases e
        exact .inr (.inl ⟨p, xs, rfl, h1, by rw [flat_of vx]; exact c.1, by rw [flats_of h2]; exact c.2, any_of vx h2⟩)
      · split at e
        · rename_i d es q1 q2
          split at e
          · rename_i c
            cases e
            exact .inr (.inr ⟨d, es, dp_of hr _ _ _ _ vx q1, dp_of hr _ _ _ _ vy q2, c.1, c.2, rfl⟩)
          · cases e
        · cases e
    · cases e
theorem s2_in : S2 g (rInA g.K) dIn := by
  intro H μ h x y a b Q W hr vx vy bk
  unfold dIn at bk
  split at bk
  · rename_i k e
    rcases in_of hr vx vy e with ⟨c, z, h1, h2, h3⟩ | ⟨p, xs, h1, h2, h3, h4, h5⟩ | ⟨d, e, h1, h2, h3, h4, h5⟩
    · exact .inl ⟨c, z, h1, h2, by rw [h3]; exact bk.val hr (.bl _)⟩
    · exact .inr (.inl ⟨p, xs, h1, h2, h3, h4, by rw [if_neg Bool.false_ne_true, h5]; exact bk.val hr (.bl _)⟩)
    · exact .inr (.inr ⟨d, e, h1, h2, h3, h4, by rw [h5]; exact bk.val hr (.bl _)⟩)
  · exact bk.elim
theorem s2_notIn : S2 g (rNotInA g.K) dNotIn := by
  intro H μ h x y a b Q W hr vx vy bk
  unfold dNotIn at bk
  split at bk
  · rename_i k e
    rcases in_of hr vx vy e with ⟨c, z, h1, h2, h3⟩ | ⟨p, xs, h1, h2, h3, h4, h5⟩ | ⟨d, e, h1, h2, h3, h4, h5⟩
    · exact .inl ⟨c, z, h1, h2, by rw [h3]; exact bk.val hr (.bl _)⟩
    · exact .inr (.inl ⟨p, xs, h1, h2, h3, h4, by rw [if_pos rfl, h5]; exact bk.val hr (.bl _)⟩)
    · exact .inr (.inr ⟨d, e, h1, h2, h3, h4, by rw [h5]; exact bk.val hr (.bl _)⟩)
  · exact bk.elim
/-! ### places -/
def dIx (a b : D) (h : MH) : R D := match b with
  | .int i => match a with
    | .str z => if z.length ≤ 1000000 then match atI z.cps.toList i with
      | some c => .ok (.str ⟨#[c]⟩) h
      | none => .bad else .bad
    | a => match seqOf h a with
      | some l => match atI l i with
        | some d => .ok d h
        | none => .bad
      | none => .bad
  | _ => .bad
theorem atI_of {xs : List V} {ds : List D} {i : Int} {d : D} (vs : VRs g H μ xs ds) (e : atI ds i = some d) : ∃ v, atI xs i = some v ∧ VR g H μ v d := by
  unfold atI at e ⊢
  rw [vs.length]
  cases q : ixN ds.length i with
  | none => rw [q] at e; cases e
  | some j =>
    rw [q] at e
    exact vs.get e
theorem s2_ix : S2 g (rIx g.K) dIx := by
  intro H μ h x y a b Q W hr vx vy bk
  cases vy with
  | int i =>
    cases vx with
    | str z =>
      simp only [dIx] at bk
      split at bk
      · rename_i hz
        split at bk
        · rename_i c e
          exact .inr (.inr ⟨z, i, c, rfl, rfl, sz6 hz, e, bk.val hr (.str _)⟩)
        · exact bk.elim
      · exact bk.elim
    | @tup p xs ds hs vs =>
      simp only [dIx, seqOf] at bk
      split at bk
      · rename_i d e
        obtain ⟨v, h1, h2⟩ := atI_of vs e
        exact .inr (.inl ⟨p, xs, i, v, rfl, rfl, hs.sq, h1, bk.val hr h2⟩)
      · exact bk.elim
    | @ref p j hj =>
      simp only [dIx, seqOf] at bk
      split at bk
      · rename_i l q
        obtain ⟨xs, hs, vs⟩ := hr.list hj q
        split at bk
        · rename_i d e
          obtain ⟨v, h1, h2⟩ := atI_of vs e
          exact .inl ⟨p, xs, i, v, rfl, rfl, hs, h1, bk.val hr h2⟩
        · exact bk.elim
      · exact bk.elim
    | _ => simp only [dIx, seqOf] at bk; exact bk.elim
  | _ => simp only [dIx] at bk; exact bk.elim
end
end Mi

namespace Mi
open PySem L2

/-! ### slices -/
def mNo : MP := fun _ h => .ok none h
def mSome (a : ME) : MP := fun ρ h => (a ρ h).bind fun x h1 => match x with
  | .int i => .ok (some i) h1
  | _ => .bad
def cutD (xs : List D) (lo hi : Option Int) : List D := (xs.drop (HT.sIx xs.length 0 lo)).take (HT.sIx xs.length xs.length hi - HT.sIx xs.length 0 lo)
def dSl (a : D) (lo hi : Option Int) (h : MH) : R D := match a with
  | .str z => if z.length ≤ 1000000 then .ok (.str (cutS z lo hi)) h else .bad
  | .tup l => .ok (.tup (cutD l lo hi)) h
  | .ref i => match getL h i with
    | some l => .ok (.ref h.length) (h ++ [.lst (cutD l lo hi)])
    | none => .bad
  | _ => .bad
def mSl (a : ME) (lo hi : MP) : ME := fun ρ h => (a ρ h).bind fun x h1 => (lo ρ h1).bind fun l h2 => (hi ρ h2).bind fun u h3 => dSl x l u h3
section
variable {X : Cx} {g : G} {W : WX} {a b e : Expr} {ma mb : ME} {pos p2 : Pos} {es : List Expr} {mr : MA} {lo hi : Option Expr} {ml mh : MP}
theorem sp_none : PO X none (tP g W mNo) := ⟨fun pins s σ H Q I ⟨ρ, h, μ, sr, hr, bk⟩ => (po_none (X := X)).run pins s σ H Q I (bk none H μ Mon.refl hr rfl)⟩
theorem sp_some (he : PE X e (tE g W ma)) : PO X (some e) (tP g W (mSome ma)) := ⟨fun pins s σ H Q I ⟨ρ, h, μ, sr, hr, bk⟩ => (po_some he).run pins s σ H Q I (step (rel := VR) (rel' := fun _ => opR) (ma := ma) (Q' := Q) sr hr bk fun x d h1 H1 μ1 m1 sr1 hr1 vx bk1 => by
  cases vx with
  | int i => exact ⟨i, rfl, bk1 _ H1 μ1 Mon.refl hr1 rfl⟩
  | _ => exact bk1.elim)⟩
theorem slR_or {r r' : V → Option Int → Option Int → Hp → VK → Prop} (h : SlR X r) (h' : SlR X r') : SlR X (fun x l u H Q => r x l u H Q ∨ r' x l u H Q) := by
  intro pins s σ H x v vl vu lo hi sl Q I rx hs pl pu q
  rcases q with q | q
  · exact h pins s σ H x v vl vu lo hi sl Q I rx hs pl pu q
  · exact h' pins s σ H x v vl vu lo hi sl Q I rx hs pl pu q
theorem cut_of {H : Hp} {μ : List Addr} {xs : List V} {ds : List D} (vs : VRs g H μ xs ds) (l u : Option Int) : VRs g H μ (cutV xs l u) (cutD ds l u) := by
  unfold cutV cutD
  rw [vs.length]
  exact (vs.drop _).take _
theorem cut_whole {ds : List D} {l u : Option Int} (h : HT.sIx ds.length 0 l = 0 ∧ HT.sIx ds.length ds.length u = ds.length) : cutD ds l u = ds := by
  unfold cutD
  rw [h.1, h.2]
  simp
theorem se_slice (he : PE X a (tE g W ma)) (hl : PO X lo (tP g W ml)) (hu : PO X hi (tP g W mh)) (hK : X.K = g.K := by rfl) : PE X (.Subscript a (.Slice lo hi none p2) pos) (tE g W (mSl ma ml mh)) :=
  pe_mono (pe_slice (slR_or sl_str (slR_or sl_tupF sl_list)) he hl hu) fun σ H Q ⟨ρ, h, μ, sr, hr, bk⟩ =>
    step (rel := VR) (rel' := VR) (ma := ma) (Q' := Q) sr hr bk fun x d h1 H1 μ1 m1 sr1 hr1 vx bk1 =>
      step (rel := fun _ => opR) (rel' := VR) (ma := ml) (Q' := Q) sr1 hr1 bk1 fun l l' h2 H2 μ2 m2 sr2 hr2 vl bk2 =>
        step (rel := fun _ => opR) (rel' := VR) (ma := mh) (Q' := Q) sr2 hr2 bk2 fun u u' h3 H3 μ3 m3 sr3 hr3 vu bk3 => by
          cases vl
          cases vu
          have vx3 := (vx.mono m2).mono m3
          rw [hK]
          cases vx3 with
          | str z =>
            simp only [dSl] at bk3
            split at bk3
            · rename_i hz
              exact .inl ⟨z, rfl, sz6 hz, bk3.val hr3 (.str _)⟩
            · exact bk3.elim
          | @tup p xs ds hs vs =>
            refine .inr (.inl ⟨p, xs, rfl, hs.sq, fun w => ?_, fun _ p ob hp ho => bk3.newT hr3 (cut_of vs _ _) hp ho⟩)
            rw [vs.length] at w
            rw [dSl, cut_whole w] at bk3
            exact bk3.val hr3 (.tup hs vs)
          | @ref p i hi =>
            simp only [dSl] at bk3
            split at bk3
            · rename_i l q
              obtain ⟨xs, hs, vs⟩ := hr3.list hi q
              exact .inr (.inr ⟨p, xs, rfl, hs, fun p hp => bk3.newL hr3 (cut_of vs _ _) hp⟩)
            · exact bk3.elim
          | _ => exact bk3.elim
end

/-! ### built-ins by values -/
def dLen : List D → MH → R D
  | [.str z], h => if z.length ≤ 1000000 then .ok (.int z.length) h else .bad
  | [.tup l], h => .ok (.int l.length) h
  | [.ref i], h => match getL h i with
    | some l => .ok (.int l.length) h
    | none => .bad
  | _, _ => .bad
def dAbs : List D → MH → R D
  | [.int i], h => .ok (.int (if i < 0 then -i else i)) h
  | _, _ => .bad
def dMax : List D → MH → R D
  | [.int i, .int j], h => .ok (.int (if j > i then j else i)) h
  | _, _ => .bad
def dMin : List D → MH → R D
  | [.int i, .int j], h => .ok (.int (if j < i then j else i)) h
  | _, _ => .bad
def dInt : List D → MH → R D
  | [.int i], h => .ok (.int i) h
  | [.bl b], h => .ok (.int (if b then 1 else 0)) h
  | _, _ => .bad
def dStr : List D → MH → R D
  | [.int i], h => if i.natAbs.log2 < 1920 then .ok (.str (toString i : String)) h else .bad
  | _, _ => .bad
def dList : List D → MH → R D
  | [a], h => match seqOf h a with
    | some l => .ok (.ref h.length) (h ++ [.lst l])
    | none => .bad
  | _, _ => .bad
def dTuple : List D → MH → R D
  | [a], h => match seqOf h a with
    | some l => .ok (.tup l) h
    | none => .bad
  | _, _ => .bad
def allBl : List D → Option (List Bool)
  | [] => some []
  | .bl b :: r => (allBl r).map (b :: ·)
  | _ => none
def dAny : List D → MH → R D
  | [.ref i], h => match (getL h i).bind allBl with
    | some bs => .ok (.bl (bs.any id)) h
    | none => .bad
  | _, _ => .bad
def dAll : List D → MH → R D
  | [.ref i], h => match (getL h i).bind allBl with
    | some bs => .ok (.bl (bs.all id)) h
    | none => .bad
  | _, _ => .bad
section
variable {g : G} {X : Cx}
theorem sn1 {r : List V → Hp → VK → Prop} {f : List D → MH → R D} (h1 : ∀ H μ h x a Q W, HR g H μ h → VR g H μ x a → Bk (VR g) g H μ (f [a] h) Q W → r [x] H Q) (h0 : ∀ h, f [] h = .bad) (h2 : ∀ a b l h, f (a :: b :: l) h = .bad) : SN g r f := by
  intro H μ h xs ds Q W hr vs bk
  cases vs with
  | nil => rw [h0] at bk; exact bk.elim
  | cons va t =>
    cases t with
    | nil => exact h1 H μ h _ _ Q W hr va bk
    | cons vb t => rw [h2] at bk; exact bk.elim
theorem sn_len : SN g (fun xs H Q => ∃ x n, xs = [x] ∧ LenV g.K x H n ∧ Q (.int n) H) dLen := sn1 (fun H μ h x a Q W hr va bk => by
  cases va with
  | str z =>
    simp only [dLen] at bk
    split at bk
    · rename_i hz; exact ⟨_, _, rfl, ⟨sz6 hz, rfl⟩, bk.val hr (.int _)⟩
    · exact bk.elim
  | @tup p xs ds hs vs => exact ⟨_, _, rfl, .inr ⟨xs, hs.sq, rfl⟩, by rw [vs.length]; exact bk.val hr (.int _)⟩
  | @ref p i hi =>
    simp only [dLen] at bk
    split at bk
    · rename_i l q
      obtain ⟨xs, hs, vs⟩ := hr.list hi q
      exact ⟨_, _, rfl, .inl ⟨xs, hs, rfl⟩, by rw [vs.length]; exact bk.val hr (.int _)⟩
    · exact bk.elim
  | _ => exact bk.elim) (fun _ => rfl) (fun a b l h => by simp [dLen])
theorem sn_abs : SN g (fun xs H Q => ∃ i, xs = [.int i] ∧ Q (.int (if i < 0 then -i else i)) H) dAbs := sn1 (fun H μ h x a Q W hr va bk => by
  cases va with
  | int i => exact ⟨i, rfl, bk.val hr (.int _)⟩
  | _ => exact bk.elim) (fun _ => rfl) (fun a b l h => by simp [dAbs])
theorem sn_int : SN g (fun xs H Q => (∃ i, xs = [.int i] ∧ Q (.int i) H) ∨ ∃ k, xs = [.bl k] ∧ Q (.int (if k then 1 else 0)) H) dInt := sn1 (fun H μ h x a Q W hr va bk => by
  cases va with
  | int i => exact .inl ⟨i, rfl, bk.val hr (.int _)⟩
  | bl b => exact .inr ⟨b, rfl, bk.val hr (.int _)⟩
  | _ => exact bk.elim) (fun _ => rfl) (fun a b l h => by simp [dInt])
theorem sn_str : SN g (fun xs H Q => ∃ i, xs = [.int i] ∧ i.natAbs.log2 < 1920 ∧ Q (.str (toString i)) H) dStr := sn1 (fun H μ h x a Q W hr va bk => by
  cases va with
  | int i =>
    simp only [dStr] at bk
    split at bk
    · rename_i c; exact ⟨i, rfl, c, bk.val hr (.str _)⟩
    · exact bk.elim
  | _ => exact bk.elim) (fun _ => rfl) (fun a b l h => by simp [dStr])
theorem sn_list : SN g (fun xs H Q => ∃ p ys, xs = [.ref p] ∧ (SqL g.K H p ys ∨ SqT g.K H p ys) ∧ ∀ l, H l = none → Q (.ref l) (upd H l (.lst ys))) dList := sn1 (fun H μ h x a Q W hr va bk => by
  simp only [dList] at bk
  split at bk
  · rename_i l q
    have hy : ∃ p, x = .ref p := by cases va <;> first | exact ⟨_, rfl⟩ | cases q
    obtain ⟨p, rfl⟩ := hy
    obtain ⟨xs, h1, h2⟩ := hr.seq va q
    exact ⟨p, xs, rfl, h1, fun l hl => bk.newL hr h2 hl⟩
  · exact bk.elim) (fun _ => rfl) (fun a b l h => by simp [dList])
theorem sn_tuple : SN g (rTupF g.K) dTuple := sn1 (fun H μ h x a Q W hr va bk => by
  cases va with
  | @tup p xs ds hs vs => exact ⟨p, xs, rfl, .inr ⟨hs.sq, bk.val hr (.tup hs vs)⟩⟩
  | @ref p i hi =>
    simp only [dTuple, seqOf] at bk
    split at bk
    · rename_i l q
      obtain ⟨xs, hs, vs⟩ := hr.list hi q
      exact ⟨p, xs, rfl, .inl ⟨hs, fun l ob hl ho => bk.newT hr vs hl ho⟩⟩
    · exact bk.elim
  | _ => simp only [dTuple, seqOf] at bk; exact bk.elim) (fun _ => rfl) (fun a b l h => by simp [dTuple])
theorem bls_of {H : Hp} {μ : List Addr} : ∀ {xs : List V} {ds : List D} {bs : List Bool}, VRs g H μ xs ds → allBl ds = some bs → xs = bs.map V.bl
  | _, _, _, .nil, e => by cases e; rfl
  | _, _, _, .cons (d := d) a b, e => by
    cases a with
    | bl k =>
      simp only [allBl, Option.map_eq_some_iff] at e
      obtain ⟨r, e, rfl⟩ := e
      rw [bls_of b e]; rfl
    | _ => cases e
theorem sn_any : SN g (rAny g.K) dAny := sn1 (fun H μ h x a Q W hr va bk => by
  cases va with
  | @ref p i hi =>
    simp only [dAny] at bk
    split at bk
    · rename_i bs q
      obtain ⟨l, q1, q2⟩ := Option.bind_eq_some_iff.mp q
      obtain ⟨xs, hs, vs⟩ := hr.list hi q1
      exact ⟨p, bs, rfl, by rw [← bls_of vs q2]; exact hs, bk.val hr (.bl _)⟩
    · exact bk.elim
  | _ => exact bk.elim) (fun _ => rfl) (fun a b l h => by simp [dAny])
theorem sn_all : SN g (rAll g.K) dAll := sn1 (fun H μ h x a Q W hr va bk => by
  cases va with
  | @ref p i hi =>
    simp only [dAll] at bk
    split at bk
    · rename_i bs q
      obtain ⟨l, q1, q2⟩ := Option.bind_eq_some_iff.mp q
      obtain ⟨xs, hs, vs⟩ := hr.list hi q1
      exact ⟨p, bs, rfl, by rw [← bls_of vs q2]; exact hs, bk.val hr (.bl _)⟩
    · exact bk.elim
  | _ => exact bk.elim) (fun _ => rfl) (fun a b l h => by simp [dAll])
theorem sn2i {r : List V → Hp → VK → Prop} {f : List D → MH → R D} (h1 : ∀ H μ h i j Q W, HR g H μ h → Bk (VR g) g H μ (f [.int i, .int j] h) Q W → r [.int i, .int j] H Q) (h2 : ∀ ds h, (∀ i j, ds ≠ [.int i, .int j]) → f ds h = .bad) : SN g r f := by
  intro H μ h xs ds Q W hr vs bk
  have no : (∀ i j, ds ≠ [.int i, .int j]) → r xs H Q := fun z => by rw [h2 ds h z] at bk; exact bk.elim
  cases vs with
  | nil => exact no fun _ _ z => nomatch z
  | cons va t =>
    cases va with
    | int i =>
      cases t with
      | nil => exact no fun _ _ z => nomatch z
      | cons vb t =>
        cases vb with
        | int j =>
          cases t with
          | nil => exact h1 H μ h i j Q W hr bk
          | cons _ _ => exact no fun _ _ z => nomatch z
        | _ => exact no fun _ _ z => nomatch z
    | _ => exact no fun _ _ z => nomatch z
theorem two_bad {f : List D → MH → R D} (hf : ∀ (ds : List D) (h : MH), match ds with | [D.int _, D.int _] => True | _ => f ds h = .bad) : ∀ ds h, (∀ i j, ds ≠ [.int i, .int j]) → f ds h = .bad := fun ds h z => by
  have := hf ds h
  split at this
  · exact absurd rfl (z _ _)
  · exact this
theorem sn_max : SN g (fun xs H Q => ∃ i j, xs = [.int i, .int j] ∧ Q (.int (if j > i then j else i)) H) dMax := sn2i (fun H μ h i j Q W hr bk => ⟨i, j, rfl, bk.val hr (.int _)⟩) (two_bad fun ds h => by split <;> first | trivial | (unfold dMax; split <;> first | rfl | simp_all))
theorem sn_min : SN g (fun xs H Q => ∃ i j, xs = [.int i, .int j] ∧ Q (.int (if j < i then j else i)) H) dMin := sn2i (fun H μ h i j Q W hr bk => ⟨i, j, rfl, bk.val hr (.int _)⟩) (two_bad fun ds h => by split <;> first | trivial | (unfold dMin; split <;> first | rfl | simp_all))
end

/-! ### isinstance against built-in types -/
def tyName (h : MH) : D → Option String
  | .non => some "NoneType" | .bl _ => some "bool" | .int _ => some "int" | .str _ => some "str" | .tup _ => some "tuple"
  | .ref i => match h[i]? with
    | some (.lst _) => some "list"
    | some (.rol _) => some "list"
    | some (.dK _) => some "dict"
    | _ => none
  | .xo _ _ _ => none
def mIsi (T : String) (a : ME) : ME := fun ρ h => (a ρ h).bind fun x h1 => match (tyName h1 x).bind fun n => kitB n T with
  | some b => .ok (.bl b) h1
  | none => .bad
section
variable {X : Cx} {g : G} {W : WX} {a : Expr} {ma : ME} {pos : Pos}
theorem HR.ty {H : Hp} {μ : List Addr} {h : MH} {x : V} {d : D} {n : String} (hr : HR g H μ h) (vx : VR g H μ x d) (e : tyName h d = some n) : TyX g.K H x (.type n) := by
  cases vx with
  | xo _ _ _ _ => cases e
  | non => cases e; exact .base .non
  | bl b => cases e; exact .base (.bl b)
  | int i => cases e; exact .base (.int i)
  | str z => cases e; exact .base (.str z)
  | tup hs vs =>
    cases e
    rcases hs with ⟨o, _, hs⟩ | ⟨o, its, k, h1, h2, h3⟩
    · exact .fTuple hs
    · exact .kTuple h1 h2
  | ref hi =>
    simp only [tyName] at e
    split at e
    · rename_i l q
      cases e
      obtain ⟨xs, h1, _⟩ := hr.ob _ _ _ hi q
      exact .base (.lst h1)
    · rename_i l q
      cases e
      obtain ⟨xs, h1, _⟩ := hr.ob _ _ _ hi q
      rcases h1 with ⟨o, h1⟩ | ⟨o, its, k, h1, h2, h3⟩
      · exact .base (.frz h1)
      · exact .kList h1 h2
    · rename_i l q
      cases e
      obtain ⟨xs, h1, _⟩ := hr.ob _ _ _ hi q
      exact .base (.dK h1)
    · cases e
theorem se_isi {T : Str} {n : String} {p p2 : Pos} (ha : PE X a (tE g W ma)) (hm : X.mg "isinstance" = none) (hmT : X.mg T = none) (hvT : bootBuiltins T = some (.type n)) (hnT : T ≠ "__name__" := by decide) (hdT : (T == ("__debug__" : Str)) = false := by decide) (hg : Gl X "isinstance" := by rfl) (hgT : Gl X T := by rfl)
    (hK : X.K = g.K := by rfl)
    (s1 : starEach [a, .Name T p2] X.env = (false, eval a X.env) :: starEach [.Name T p2] X.env := by rfl) (s2 : starEach [.Name T p2] X.env = (false, eval (.Name T p2) X.env) :: starEach [] X.env := by rfl)
    (hpl : (backTo pos (starEach [.Name T p2] X.env)).any (·.1) = false := by rfl) : PE X (.Call (.Name "isinstance" p) [a, .Name T p2] [] pos) (tE g W (mIsi n ma)) :=
  pe_mono (pe_callB call_isi hg hm (by decide +kernel) (pa_cons ha (pa_cons (pe_bltn (v := .ty n) hgT hmT hvT rfl hnT hdT) pa_nil s2) s1) (by decide) (by decide) s1 hpl) fun σ H Q ⟨ρ, h, μ, sr, hr, bk⟩ =>
    step (rel := VR) (rel' := VR) (ma := ma) (Q' := Q) sr hr bk fun x d h1 H1 μ1 m1 sr1 hr1 vx bk1 => by
      split at bk1
      · rename_i b q
        obtain ⟨t, q1, q2⟩ := Option.bind_eq_some_iff.mp q
        refine ⟨x, .ty n, .type t, .type n, b, rfl, .ty n, ?_, kit_ty q2, bk1.val hr1 (.bl b)⟩
        rw [hK]
        exact hr1.ty vx q1
      · exact bk1.elim
end

/-! ### methods of built-in types -/
section
variable {X : Cx} {g : G} {W : WX} {o e : Expr} {mo : ME} {es : List Expr} {mr : MA} {name : Str} {apos cpos : Pos} {T id : String} {r : V → List V → Hp → VK → Prop} {f : D → List D → MH → R D} {ty : D → MH → Bool}
/-- how the type is seen -/
def STy (g : G) (T : String) (ty : D → MH → Bool) : Prop := ∀ (H : Hp) (μ : List Addr) (h : MH) (x : V) (a : D), HR g H μ h → VR g H μ x a → ty a h = true → tyV g.K T x H
theorem sty_list : STy g "list" isListD := fun H μ h x a hr va e => by
  cases va with
  | ref hi =>
    obtain ⟨l, q⟩ := Option.isSome_iff_exists.mp e
    obtain ⟨xs, hs, _⟩ := hr.list hi q
    exact .inl ⟨rfl, xs, hs⟩
  | _ => cases e
theorem sty_str : STy g "str" isStrD := fun H μ h x a hr va e => by
  cases va with
  | str z => exact (rfl : "str" = "str")
  | _ => cases e
theorem se_bm (pa : PlainAttrs T) (slot : Slot T name id) (hty : typeOf (.builtin id) = pure (.type "method_descriptor")) (hm : MtR X id r) (st : STy g T ty) (hs : SM g r f) (ho : PE X o (tE g W mo)) (ha : PA X (e :: es) (tA g W mr)) (hK : X.K = g.K := by rfl)
    (hbase : attributeBase o name X.env (eval o X.env) = eval o X.env := by rfl)
    (hfew : ((backTo cpos (starEach (e :: es) X.env)).all (fun x => !x.1) && (backToKw cpos (keywordEach [] X.env)).all (fun x => x.1.isSome)
      && decide ((e :: es).length + ([] : List Keyword).length + (if ([] : List Keyword).isEmpty then 0 else 1) < 30)) = true := by rfl)
    (hline : (apos.endLine == cpos.line) = true := by rfl) (hse : starEach (e :: es) X.env = (false, eval e X.env) :: starEach es X.env := by rfl) (hplain : (backTo cpos (starEach es X.env)).any (·.1) = false := by rfl) :
    PE X (.Call (.Attribute o name apos) (e :: es) [] cpos) (tE g W (mMeth ty f mo mr)) :=
  pe_mono (pe_bm pa slot hty hm ho ha hbase hfew hline hse hplain) fun σ H Q ⟨ρ, h, μ, sr, hr, bk⟩ =>
    step (rel := VR) (rel' := VR) (ma := mo) (Q' := Q) sr hr bk fun x d h1 H1 μ1 m1 sr1 hr1 vx bk1 => by
      split at bk1
      · rename_i ht
        refine ⟨by rw [hK]; exact st H1 μ1 h1 x d hr1 vx ht, ?_⟩
        exact step (rel := VRs) (rel' := VR) (ma := mr) (Q' := Q) sr1 hr1 bk1 fun xs ds h2 H2 μ2 m2 sr2 hr2 vs bk2 => hs H2 μ2 h2 x xs d ds Q _ hr2 (vx.mono m2) vs bk2
      · exact bk1.elim
theorem se_bm0 (pa : PlainAttrs T) (slot : Slot T name id) (hty : typeOf (.builtin id) = pure (.type "method_descriptor")) (hm : MtR X id r) (st : STy g T ty) (hs : SM g r f) (ho : PE X o (tE g W mo)) (hK : X.K = g.K := by rfl)
    (hbase : attributeBase o name X.env (eval o X.env) = eval o X.env := by rfl) (hline : (apos.endLine == cpos.line) = true := by rfl) : PE X (.Call (.Attribute o name apos) [] [] cpos) (tE g W (mMeth ty f mo mNil)) :=
  pe_mono (pe_bm0 pa slot hty hm ho hbase hline) fun σ H Q ⟨ρ, h, μ, sr, hr, bk⟩ =>
    step (rel := VR) (rel' := VR) (ma := mo) (Q' := Q) sr hr bk fun x d h1 H1 μ1 m1 sr1 hr1 vx bk1 => by
      split at bk1
      · rename_i ht
        exact ⟨by rw [hK]; exact st H1 μ1 h1 x d hr1 vx ht, hs H1 μ1 h1 x [] d [] Q _ hr1 vx .nil bk1⟩
      · exact bk1.elim
def dAppend : D → List D → MH → R D
  | .ref i, [d], h => match h[i]? with
    | some (.lst l) => if l.length < 1000000 then .ok .non (h.set i (.lst (l ++ [d]))) else .bad
    | _ => .bad
  | _, _, _ => .bad
theorem sm_append : SM g rAppend dAppend := by
  intro H μ h x xs a ds Q W hr va vs bk
  unfold dAppend at bk
  split at bk
  · rename_i i d
    cases va with
    | @ref p _ hi =>
      cases vs with
      | cons vd t =>
        cases t
        split at bk
        · rename_i l q
          split at bk
          · rename_i hl
            obtain ⟨ys, h1, h2⟩ := hr.lst hi q
            exact ⟨p, ys, _, rfl, rfl, h1, by rw [h2.length]; exact sz6' hl, bk.setL hr hi q h1 (h2.append (.one vd)) .non⟩
          · exact bk.elim
        · exact bk.elim
  · exact bk.elim
def dExtend : D → List D → MH → R D
  | .ref i, [.ref j], h => match h[i]?, h[j]? with
    | some (.lst l), some (.lst m) => if l.length + m.length ≤ 1000000 then .ok .non (h.set i (.lst (l ++ m))) else .bad
    | _, _ => .bad
  | _, _, _ => .bad
theorem sm_extend : SM g rExtend dExtend := by
  intro H μ h x xs a ds Q W hr va vs bk
  unfold dExtend at bk
  split at bk
  · rename_i i j
    cases va with
    | @ref p _ hi =>
      cases vs with
      | cons vd t =>
        cases t
        cases vd with
        | @ref q _ hj =>
          split at bk
          · rename_i l m q1 q2
            split at bk
            · rename_i hl
              obtain ⟨ys, h1, h2⟩ := hr.lst hi q1
              obtain ⟨zs, h3, h4⟩ := hr.lst hj q2
              exact ⟨p, q, ys, zs, rfl, rfl, h1, h3, by rw [h2.length, h4.length]; exact sz6 hl, bk.setL hr hi q1 h1 (h2.append h4) .non⟩
            · exact bk.elim
          · exact bk.elim
  · exact bk.elim
def dPop : D → List D → MH → R D
  | .ref i, [], h => match h[i]? with
    | some (.lst l) => match l[l.length - 1]? with
      | some d => .ok d (h.set i (.lst l.dropLast))
      | none => .bad
    | _ => .bad
  | _, _, _ => .bad
theorem sm_pop : SM g rPop dPop := by
  intro H μ h x xs a ds Q W hr va vs bk
  unfold dPop at bk
  split at bk
  · rename_i i
    cases va with
    | @ref p _ hi =>
      cases vs
      split at bk
      · rename_i l q
        split at bk
        · rename_i d e
          obtain ⟨ys, h1, h2⟩ := hr.lst hi q
          rw [← h2.length] at e
          obtain ⟨v, e1, e2⟩ := h2.get e
          exact ⟨p, ys, v, rfl, rfl, h1, e1, bk.setL hr hi q h1 h2.dropLast e2⟩
        · exact bk.elim
      · exact bk.elim
  · exact bk.elim
def allStr : List D → Option (List Str)
  | [] => some []
  | .str b :: r => (allStr r).map (b :: ·)
  | _ => none
theorem strs_of {H : Hp} {μ : List Addr} : ∀ {xs : List V} {ds : List D} {bs : List Str}, VRs g H μ xs ds → allStr ds = some bs → xs = bs.map V.str
  | _, _, _, .nil, e => by cases e; rfl
  | _, _, _, .cons (d := d) a b, e => by
    cases a with
    | str k =>
      simp only [allStr, Option.map_eq_some_iff] at e
      obtain ⟨r, e, rfl⟩ := e
      rw [strs_of b e]; rfl
    | _ => cases e
def dJoin : D → List D → MH → R D
  | .str a, [b], h => match (seqOf h b).bind allStr with
    | some ys => if (ys.map (·.length)).sum + ys.length * a.length ≤ 1000000 then .ok (.str (Txt.join a ys)) h else .bad
    | none => .bad
  | _, _, _ => .bad
theorem sm_join : SM g (fun x xs H Q => ∃ a p, ∃ ys : List Str, x = .str a ∧ xs = [.ref p] ∧ (SqL g.K H p (ys.map V.str) ∨ SqT g.K H p (ys.map V.str)) ∧ (ys.map (·.length)).sum + ys.length * a.length ≤ 16777216 ∧ Q (.str (Txt.join a ys)) H) dJoin := by
  intro H μ h x xs a ds Q W hr va vs bk
  unfold dJoin at bk
  split at bk
  · rename_i z b
    cases va
    cases vs with
    | @cons v _ _ _ vd t =>
      cases t
      split at bk
      · rename_i ys q
        obtain ⟨l, q1, q2⟩ := Option.bind_eq_some_iff.mp q
        have hy : ∃ p, v = .ref p := by cases vd <;> first | exact ⟨_, rfl⟩ | cases q1
        obtain ⟨p, rfl⟩ := hy
        obtain ⟨zs, h1, h2⟩ := hr.seq vd q1
        split at bk
        · rename_i c
          refine ⟨z, p, ys, rfl, rfl, ?_, by omega, bk.val hr (.str _)⟩
          rw [← strs_of h2 q2]
          exact h1
        · exact bk.elim
      · exact bk.elim
  · exact bk.elim
end
end Mi

namespace Mi
open PySem L2

/-! ### targets -/
abbrev MG := D → Slots → Option Slots
abbrev Rl := G → Hp → List Addr → V → D → Prop
/-- a pair that a walk has just laid: its items alone are known -/
def SV : Rl := fun g H μ v d => ∃ p xs ds, v = .ref p ∧ d = .tup ds ∧ SqT g.K H p xs ∧ VRs g H μ xs ds
def tGr (rl : Rl) (g : G) (m : MG) : TG := fun v σ H Q => ∃ ρ h μ d, SR g H μ σ ρ ∧ HR g H μ h ∧ rl g H μ v d ∧ match m d ρ with
  | some ρ' => ∀ σ', SR g H μ σ' ρ' → Q σ' H
  | none => False
abbrev tG (g : G) (m : MG) : TG := tGr VR g m
abbrev MGs := List D → Slots → Option Slots
def tGs (g : G) (m : MGs) : TGs := fun vs σ H Q => ∃ ρ h μ ds, SR g H μ σ ρ ∧ HR g H μ h ∧ VRs g H μ vs ds ∧ match m ds ρ with
  | some ρ' => ∀ σ', SR g H μ σ' ρ' → Q σ' H
  | none => False
def mgName (i : Nat) : MG := fun d ρ => some (ρ.set i (some d))
def mgNil : MGs := fun ds ρ => match ds with
  | [] => some ρ
  | _ => none
def mgCons (a : MG) (r : MGs) : MGs := fun ds ρ => match ds with
  | d :: ds => (a d ρ).bind fun ρ' => r ds ρ'
  | [] => none
def mgTup (r : MGs) : MG := fun d ρ => match d with
  | .tup ds => r ds ρ
  | _ => none
section
variable {X : Cx} {g : G} {pos : Pos}
theorem pg_mono {tg : Expr} {t t' : TG} (h : PG X tg t) (hm : ∀ v σ H Q, t' v σ H Q → t v σ H Q) : PG X tg t' := ⟨fun pins s σ H v u Q I r q => h.run pins s σ H v u Q I r (hm v σ H Q q)⟩
theorem pgs_mono {tg : List Expr} {t t' : TGs} (h : PGs X tg t) (hm : ∀ v σ H Q, t' v σ H Q → t v σ H Q) : PGs X tg t' := ⟨fun pins s σ H v u Q I r q => h.run pins s σ H v u Q I r (hm v σ H Q q)⟩
theorem sg_name {i : Nat} {x : Str} (hN : X.N.Nodup) (hi : X.N[i]? = some x := by rfl) (hx : Loc X.env.scope x := by first | exact Or.inl rfl | exact Or.inr rfl) (hf : X.fn x = true ∨ X.env.scope.names.lookup x = some .local := by first | exact .inl rfl | exact .inr rfl | assumption) : PG X (.Name x pos) (tG g (mgName i)) :=
  pg_mono (pg_name hN hi hx hf) fun v σ H Q ⟨ρ, h, μ, d, sr, hr, vd, q⟩ => q _ (sr.set i vd)
theorem sgs_nil : PGs X [] (tGs g mgNil) := pgs_mono pgs_nil fun vs σ H Q ⟨ρ, h, μ, ds, sr, hr, vd, q⟩ => by
  cases vd with
  | nil => exact ⟨rfl, q σ sr⟩
  | cons a b => exact q.elim
theorem sgs_cons {e : Expr} {es : List Expr} {t : MG} {u : MGs} (h1 : PG X e (tG g t)) (h2 : PGs X es (tGs g u))
    (hs : (assignEach (e :: es) X.env).map (·.2) = assign e X.env :: (assignEach es X.env).map (·.2) := by rfl) : PGs X (e :: es) (tGs g (mgCons t u)) :=
  pgs_mono (pgs_cons h1 h2 hs) fun vs σ H Q ⟨ρ, h, μ, ds, sr, hr, vd, q⟩ => by
    cases vd with
    | nil => exact q.elim
    | @cons v d vs ds a b =>
      refine ⟨v, vs, rfl, ρ, h, μ, d, sr, hr, a, ?_⟩
      simp only [mgCons] at q
      cases e : t d ρ with
      | none => rw [e] at q; exact q
      | some ρ' =>
        rw [e] at q
        exact fun σ' sr' => ⟨ρ', h, μ, ds, sr', hr, b, q⟩
/-- how many places a target has -/
def MGs.many (n : Nat) (m : MGs) : Prop := ∀ ds ρ ρ', m ds ρ = some ρ' → ds.length = n
theorem many_nil : MGs.many 0 mgNil := fun ds ρ ρ' e => by
  cases ds with
  | nil => rfl
  | cons _ _ => cases e
theorem many_cons {n : Nat} {a : MG} {r : MGs} (h : r.many n) : MGs.many (n + 1) (mgCons a r) := fun ds ρ ρ' e => by
  cases ds with
  | nil => cases e
  | cons d ds =>
    simp only [mgCons] at e
    obtain ⟨ρ1, _, e⟩ := Option.bind_eq_some_iff.mp e
    rw [List.length_cons, h ds _ _ e]
theorem sg_tup {es : List Expr} {k : Nat} {m : MGs} {n : Nat} (h : PGs X es (tGs g m)) (hm : m.many n) (hc : X.calm = true := by rfl) (hK : X.K = g.K := by rfl)
    (hn : (assignEach es X.env).length = n := by rfl) (hst : (assignEach es X.env).findIdx? (·.1) = none := by rfl) : PG X (.Tuple es k pos) (tG g (mgTup m)) :=
  pg_mono (pg_tup hc h hn hst) fun v σ H Q ⟨ρ, h, μ, d, sr, hr, vd, q⟩ => by
    cases vd with
    | @tup p xs ds hs vs =>
      simp only [mgTup] at q
      refine ⟨p, xs, rfl, by rw [hK]; exact hs.sq, ?_, ρ, h, μ, ds, sr, hr, vs, q⟩
      cases e : m ds ρ with
      | none => rw [e] at q; exact q.elim
      | some ρ' => rw [vs.length]; exact hm _ _ _ e
    | _ => exact q.elim
theorem sg_tupZ {es : List Expr} {k : Nat} {m : MGs} {n : Nat} (h : PGs X es (tGs g m)) (hm : m.many n) (hc : X.calm = true := by rfl) (hK : X.K = g.K := by rfl)
    (hn : (assignEach es X.env).length = n := by rfl) (hst : (assignEach es X.env).findIdx? (·.1) = none := by rfl) : PG X (.Tuple es k pos) (tGr SV g (mgTup m)) :=
  pg_mono (pg_tup hc h hn hst) fun v σ H Q ⟨ρ, h, μ, d, sr, hr, vd, q⟩ => by
    obtain ⟨p, xs, ds, rfl, rfl, hs, vs⟩ := vd
    simp only [mgTup] at q
    refine ⟨p, xs, rfl, by rw [hK]; exact hs, ?_, ρ, h, μ, ds, sr, hr, vs, q⟩
    cases e : m ds ρ with
    | none => rw [e] at q; exact q.elim
    | some ρ' => rw [vs.length]; exact hm _ _ _ e
end

/-! ### what is walked -/
def JRr (rl : Rl) (g : G) (H0 : Hp) (μ0 : List Addr) (J : It) (a : List D × (MH → Bool)) : Prop := ∀ (i : Nat) (H : Hp) (μ : List Addr) (h : MH), Mon g H0 H μ0 μ → HR g H μ h → a.2 h = true →
  (i < a.1.length → J.go i H ∧ ∀ x H', J.yld i H x H' → ∃ d, a.1[i]? = some d ∧ Mon g H H' μ μ ∧ HR g H' μ h ∧ rl g H' μ x d) ∧ (a.1.length ≤ i → J.stop i H)
abbrev JR := JRr VR
abbrev MI := Slots → MH → R (List D × (MH → Bool))
abbrev tIr (rl : Rl) (g : G) (W : WX) (m : MI) : TI := tX (JRr rl) g W m
abbrev tI (g : G) (W : WX) (m : MI) : TI := tIr VR g W m
def yes : MH → Bool := fun _ => true
/-- the items of a list (as it stands), a tuple, a text -/
def itemsOf (a : D) (h : MH) : Option (List D × (MH → Bool)) := match a with
  | .tup l => some (l, yes)
  | .ref i => (getL h i).map fun l => (l, fun h' => decide (getL h' i = some l))
  | .str z => some (z.cps.toList.map fun c => .str ⟨#[c]⟩, yes)
  | _ => none
def mIter (a : ME) : MI := fun ρ h => (a ρ h).bind fun x h1 => match itemsOf x h1 with
  | some r => .ok r h1
  | none => .bad
def rangeD (i : Int) (n : Nat) : List D := (List.range n).map fun (k : Nat) => D.int (i + (k : Int))
def revRangeD (i : Int) (n : Nat) : List D := (List.range n).map fun (k : Nat) => D.int (i + (n : Int) - 1 - (k : Int))
def lim62 (i : Int) : Bool := decide (-(2 ^ 62) ≤ i) && decide (i < 2 ^ 62)
def dR1 (f : Int → Nat → List D) (x : D) (h : MH) : R (List D × (MH → Bool)) := match x with
  | .int j => if lim62 j = true then .ok (f 0 j.toNat, yes) h else .bad
  | _ => .bad
def dR2 (f : Int → Nat → List D) (x y : D) (h : MH) : R (List D × (MH → Bool)) := match x, y with
  | .int i, .int j => if lim62 i = true ∧ lim62 j = true then .ok (f i (j - i).toNat, yes) h else .bad
  | _, _ => .bad
def mRange1 (a : ME) : MI := fun ρ h => (a ρ h).bind fun x h1 => dR1 rangeD x h1
def mRange2 (a b : ME) : MI := fun ρ h => (a ρ h).bind fun x h1 => (b ρ h1).bind fun y h2 => dR2 rangeD x y h2
def mRev1 (a : ME) : MI := fun ρ h => (a ρ h).bind fun x h1 => dR1 revRangeD x h1
def mRev2 (a b : ME) : MI := fun ρ h => (a ρ h).bind fun x h1 => (b ρ h1).bind fun y h2 => dR2 revRangeD x y h2
section
variable {X : Cx} {g : G} {W : WX} {a b e : Expr} {ma mb : ME} {pos : Pos} {tg : Expr}
theorem pi_mono {t t' : TI} (h : PI X tg e t) (hm : ∀ σ H R, t' σ H R → t σ H R) : PI X tg e t' := ⟨fun pins s σ H R I q => h.run pins s σ H R I (hm σ H R q)⟩
theorem pi_or2 {t u : TI} (h : PI X tg e t) (h' : PI X tg e u) : PI X tg e (fun σ H R => t σ H R ∨ u σ H R) := ⟨fun pins s σ H R I q => by
  rcases q with q | q
  · exact h.run pins s σ H R I q
  · exact h'.run pins s σ H R I q⟩
theorem jr_list {H0 : Hp} {μ0 : List Addr} {p : Addr} {i : Nat} {l : List D} (hi : μ0[i]? = some p) : JR g H0 μ0 (Itl g.K p) (l, fun h' => decide (getL h' i = some l)) := fun k H μ h m hr gd => by
  have q : getL h i = some l := of_decide_eq_true gd
  obtain ⟨xs, hs, vs⟩ := hr.list (m.ix hi) q
  refine ⟨fun lt => ?_, fun le => ⟨xs, hs, by rw [vs.length]; exact le⟩⟩
  have hx : l[k]? = some l[k] := List.getElem?_eq_getElem lt
  obtain ⟨v, h1, h2⟩ := vs.get hx
  refine ⟨⟨xs, v, hs, h1⟩, fun x H' y => ?_⟩
  obtain ⟨e, y⟩ := y
  subst e
  have := y xs hs
  rw [h1] at this
  cases this
  exact ⟨_, hx, Mon.refl, hr, h2⟩
theorem jr_tup {H0 : Hp} {μ0 : List Addr} {p : Addr} {xs : List V} {l : List D} (hs : Tk g.K H0 p xs) (vs : VRs g H0 μ0 xs l) : JR g H0 μ0 (Itt g.K p) (l, yes) := fun k H μ h m hr _ => by
  have hs := (m.tups _ _ hs).sq
  have vs := vs.mono m
  refine ⟨fun lt => ?_, fun le => ⟨xs, hs, by rw [vs.length]; exact le⟩⟩
  have hx : l[k]? = some l[k] := List.getElem?_eq_getElem lt
  obtain ⟨v, h1, h2⟩ := vs.get hx
  refine ⟨⟨xs, v, hs, h1⟩, fun x H' y => ?_⟩
  obtain ⟨e, y⟩ := y
  subst e
  have := y xs hs
  rw [h1] at this
  cases this
  exact ⟨_, hx, Mon.refl, hr, h2⟩
theorem jr_str {H0 : Hp} {μ0 : List Addr} {z : Str} : JR g H0 μ0 (Its z) (z.cps.toList.map fun c => .str ⟨#[c]⟩, yes) := fun k H μ h m hr _ => by
  refine ⟨fun lt => ?_, fun le => ?_⟩
  · have lt' : k < z.cps.size := by simpa using lt
    refine ⟨lt', fun x H' y => ?_⟩
    obtain ⟨e, c, hc, ex⟩ := y
    subst e ex
    refine ⟨.str ⟨#[c]⟩, ?_, Mon.refl, hr, .str _⟩
    rw [List.getElem?_map, Array.getElem?_toList, hc]
    rfl
  · have : z.cps.size ≤ k := by simpa using le
    exact this
theorem jr_range {H0 : Hp} {μ0 : List Addr} {lo : Int} {n : Nat} : JR g H0 μ0 (Itr lo n) (rangeD lo n, yes) := fun k H μ h m hr _ => by
  refine ⟨fun lt => ?_, fun le => ?_⟩
  · have lt' : k < n := by simpa [rangeD] using lt
    refine ⟨lt', fun x H' y => ?_⟩
    obtain ⟨e, ex⟩ := y
    subst e ex
    refine ⟨.int (lo + (k : Int)), ?_, Mon.refl, hr, .int _⟩
    simp [rangeD, lt']
  · have : n ≤ k := by simpa [rangeD] using le
    exact this
theorem jr_rev {H0 : Hp} {μ0 : List Addr} {lo : Int} {n : Nat} : JR g H0 μ0 (Itc (lo + (n : Int) - 1) (-1) n) (revRangeD lo n, yes) := fun k H μ h m hr _ => by
  refine ⟨fun lt => ?_, fun le => ?_⟩
  · have lt' : k < n := by simpa [revRangeD] using lt
    refine ⟨lt', fun x H' y => ?_⟩
    obtain ⟨e, ex⟩ := y
    subst e ex
    refine ⟨.int (lo + (n : Int) - 1 - (k : Int)), ?_, Mon.refl, hr, ?_⟩
    · simp [revRangeD, lt']
    · have e : lo + (n : Int) - 1 + ((k : Nat) : Int) * (-1) = lo + (n : Int) - 1 - (k : Int) := by omega
      rw [e]
      exact .int _
  · have : n ≤ k := by simpa [revRangeD] using le
    exact this
theorem si_iter (he : PE X e (tE g W ma)) (hK : X.K = g.K := by rfl) : PI X tg e (tI g W (mIter ma)) :=
  pi_mono (pi_or2 (pi_list he) (pi_or2 (pi_tup he) (pi_str he))) fun σ H R ⟨ρ, h, μ, sr, hr, bk⟩ => by
    have use : ∀ (Q : VK), (∀ x d h1 H1 μ1, ma ρ h = .ok d h1 → Mon g H H1 μ μ1 → HR g H1 μ1 h1 → VR g H1 μ1 x d → Bk (JR g) g H1 μ1 (match itemsOf d h1 with | some r => Mi.R.ok r h1 | none => .bad) R (fun c d H' => W c d σ H') → Q x H1) → tE g W ma σ H Q := fun Q k =>
      ⟨ρ, h, μ, sr, hr, Bk.bind bk fun a h1 b H1 μ1 e m hr1 hv bk1 => k b a h1 H1 μ1 e m hr1 hv bk1⟩
    rw [hK]
    unfold mIter at bk
    cases e : ma ρ h with
    | bad => rw [e] at bk; exact bk.elim
    | exc x fs h' => exact .inl (use _ fun x d h1 H1 μ1 e' => by rw [e] at e'; cases e')
    | ok d h1 =>
      cases d with
      | tup l =>
        refine .inr (.inl (use _ fun x d h1 H1 μ1 e' m hr1 vx bk1 => ?_))
        rw [e] at e'
        cases e'
        cases vx with
        | @tup p xs ds hs vs => exact ⟨p, rfl, ⟨xs, hs.sq⟩, bk1 _ H1 μ1 Mon.refl hr1 (jr_tup hs vs)⟩
      | str z =>
        refine .inr (.inr (use _ fun x d h1 H1 μ1 e' m hr1 vx bk1 => ?_))
        rw [e] at e'
        cases e'
        cases vx
        exact ⟨z, rfl, bk1 _ H1 μ1 Mon.refl hr1 jr_str⟩
      | ref i =>
        refine .inl (use _ fun x d h1 H1 μ1 e' m hr1 vx bk1 => ?_)
        rw [e] at e'
        cases e'
        cases vx with
        | @ref p _ hi =>
          simp only [itemsOf] at bk1
          cases q : getL h1 i with
          | none => rw [q] at bk1; exact bk1.elim
          | some l =>
            rw [q] at bk1
            obtain ⟨xs, hs, vs⟩ := hr1.list hi q
            exact ⟨p, rfl, ⟨xs, hs⟩, bk1 _ H1 μ1 Mon.refl hr1 (jr_list hi)⟩
      | _ => rw [e] at bk; exact bk.elim
theorem lim_of {i : Int} (h : lim62 i = true) : -(2 ^ 62) ≤ i ∧ i < 2 ^ 62 := by
  unfold lim62 at h
  rw [Bool.and_eq_true] at h
  exact ⟨of_decide_eq_true h.1, of_decide_eq_true h.2⟩
theorem si_range1 {p : Pos} (hm : X.mg "range" = none) (ha : PE X a (tE g W ma)) (hg : Gl X "range" := by rfl) (hs : starEach [a] X.env = [(false, eval a X.env)] := by rfl) : PI X tg (.Call (.Name "range" p) [a] [] pos) (tI g W (mRange1 ma)) :=
  pi_mono (pi_range1 hg hm (pa_cons ha pa_nil hs) hs) fun σ H R ⟨ρ, h, μ, sr, hr, bk⟩ => step (rel := VR) (rel' := JR) (ma := ma) (Q' := R) sr hr bk fun x d h1 H1 μ1 m1 sr1 hr1 vx bk1 => by
    cases vx with
    | int j =>
      simp only [dR1] at bk1
      split at bk1
      · rename_i l
        exact ⟨j, rfl, (lim_of l).1, (lim_of l).2, bk1 _ H1 μ1 Mon.refl hr1 jr_range⟩
      · exact bk1.elim
    | _ => exact bk1.elim
theorem si_range2 {p : Pos} (hm : X.mg "range" = none) (ha : PE X a (tE g W ma)) (hb : PE X b (tE g W mb)) (hg : Gl X "range" := by rfl) (hs : starEach [a, b] X.env = [(false, eval a X.env), (false, eval b X.env)] := by rfl) (hs2 : starEach [b] X.env = [(false, eval b X.env)] := by rfl) : PI X tg (.Call (.Name "range" p) [a, b] [] pos) (tI g W (mRange2 ma mb)) :=
  pi_mono (pi_range2 hg hm (pa_cons ha (pa_cons hb pa_nil hs2) (by rw [hs, hs2])) hs hs2) fun σ H R ⟨ρ, h, μ, sr, hr, bk⟩ => step (rel := VR) (rel' := JR) (ma := ma) (Q' := R) sr hr bk fun x d h1 H1 μ1 m1 sr1 hr1 vx bk1 =>
    step (rel := VR) (rel' := JR) (ma := mb) (Q' := R) sr1 hr1 bk1 fun y d2 h2 H2 μ2 m2 sr2 hr2 vy bk2 => by
      cases vx with
      | int i =>
        cases vy with
        | int j =>
          simp only [dR2] at bk2
          split at bk2
          · rename_i l
            exact ⟨i, j, rfl, ⟨(lim_of l.1).1, (lim_of l.1).2, (lim_of l.2).1, (lim_of l.2).2⟩, bk2 _ H2 μ2 Mon.refl hr2 jr_range⟩
          · exact bk2.elim
        | _ => exact bk2.elim
      | _ => exact bk2.elim
theorem si_rev1 {p p2 pos2 : Pos} (hmr : X.mg "reversed" = none) (hm : X.mg "range" = none) (ha : PE X a (tE g W ma)) (hgr : Gl X "reversed" := by rfl) (hg : Gl X "range" := by rfl) (na : starEach [a] X.env = (false, eval a X.env) :: starEach [] X.env := by rfl)
    (hs : starEach [.Call (.Name "range" p2) [a] [] pos2] X.env = (false, eval (.Call (.Name "range" p2) [a] [] pos2) X.env) :: starEach [] X.env := by rfl) : PI X tg (.Call (.Name "reversed" p) [.Call (.Name "range" p2) [a] [] pos2] [] pos) (tI g W (mRev1 ma)) :=
  pi_mono (pi_revR hgr hmr (prg_1 hg hm ha na) hs) fun σ H R ⟨ρ, h, μ, sr, hr, bk⟩ => step (rel := VR) (rel' := JR) (ma := ma) (Q' := R) sr hr bk fun x d h1 H1 μ1 m1 sr1 hr1 vx bk1 => by
    cases vx with
    | int j =>
      simp only [dR1] at bk1
      split at bk1
      · rename_i l
        have e : (j - 0).toNat = j.toNat := by rw [Int.sub_zero]
        refine ⟨j, rfl, by decide, by decide, (lim_of l).1, (lim_of l).2, ?_⟩
        have q := jr_rev (g := g) (H0 := H1) (μ0 := μ1) (lo := 0) (n := j.toNat)
        rw [e]
        exact bk1 _ H1 μ1 Mon.refl hr1 q
      · exact bk1.elim
    | _ => exact bk1.elim
theorem si_rev2 {p p2 pos2 : Pos} (hmr : X.mg "reversed" = none) (hm : X.mg "range" = none) (ha : PE X a (tE g W ma)) (hb : PE X b (tE g W mb)) (hgr : Gl X "reversed" := by rfl) (hg : Gl X "range" := by rfl) (na : starEach [a, b] X.env = (false, eval a X.env) :: starEach [b] X.env := by rfl)
    (nb : starEach [b] X.env = (false, eval b X.env) :: starEach [] X.env := by rfl) (hp : (backTo pos2 (starEach [b] X.env)).any (·.1) = false := by rfl)
    (hs : starEach [.Call (.Name "range" p2) [a, b] [] pos2] X.env = (false, eval (.Call (.Name "range" p2) [a, b] [] pos2) X.env) :: starEach [] X.env := by rfl) : PI X tg (.Call (.Name "reversed" p) [.Call (.Name "range" p2) [a, b] [] pos2] [] pos) (tI g W (mRev2 ma mb)) :=
  pi_mono (pi_revR hgr hmr (prg_2 hg hm ha hb na nb hp) hs) fun σ H R ⟨ρ, h, μ, sr, hr, bk⟩ => step (rel := VR) (rel' := JR) (ma := ma) (Q' := R) sr hr bk fun x d h1 H1 μ1 m1 sr1 hr1 vx bk1 =>
    step (rel := VR) (rel' := JR) (ma := mb) (Q' := R) sr1 hr1 bk1 fun y d2 h2 H2 μ2 m2 sr2 hr2 vy bk2 => by
      cases vx with
      | int i =>
        cases vy with
        | int j =>
          simp only [dR2] at bk2
          split at bk2
          · rename_i l
            exact ⟨i, j, rfl, rfl, (lim_of l.1).1, (lim_of l.1).2, (lim_of l.2).1, (lim_of l.2).2, bk2 _ H2 μ2 Mon.refl hr2 jr_rev⟩
          · exact bk2.elim
        | _ => exact bk2.elim
      | _ => exact bk2.elim
end

/-! ### for -/
def forGo (gd : MH → Bool) (tg : MG) (body : MS) : List D → Slots → MH → Out
  | [], ρ, h => if gd h = true then .nx ρ h else .bad
  | d :: ds, ρ, h => if gd h = true then match tg d ρ with
    | some ρ1 => match body ρ1 h with
      | .nx ρ' h' => forGo gd tg body ds ρ' h'
      | .ct ρ' h' => forGo gd tg body ds ρ' h'
      | .bk ρ' h' => .nx ρ' h'
      | .rt d h' => .rt d h'
      | .exc x fs ρ' h' => .exc x fs ρ' h'
      | .bad => .bad
    | none => .bad else .bad
def mFor (it : MI) (tg : MG) (body : MS) : MS := fun ρ h => (it ρ h).out ρ fun a h1 => forGo a.2 tg body a.1 ρ h1
def whGo (c : MT) (body : MS) : Nat → Slots → MH → Out
  | 0, _, _ => .bad
  | n + 1, ρ, h => (c ρ h).out ρ fun b h1 => if b = true then match body ρ h1 with
    | .nx ρ' h' => whGo c body n ρ' h'
    | .ct ρ' h' => whGo c body n ρ' h'
    | .bk ρ' h' => .nx ρ' h'
    | .rt d h' => .rt d h'
    | .exc x fs ρ' h' => .exc x fs ρ' h'
    | .bad => .bad else .nx ρ h1
def mWhile (n : Nat) (c : MT) (body : MS) : MS := fun ρ h => whGo c body n ρ h
section
variable {X : Cx} {g : G} {W : WX} {pos : Pos} {tg iter : Expr} {mi : MI} {mt : MG} {mb : MS} {body : List Stmt} {rl : Rl}
theorem sx_for (hp : PassesOwn (model X.prog X.w) X.A X.env X.xe) (hi : PI X tg iter (tIr rl g W mi)) (hg : PG X tg (tGr rl g mt)) (hb : PSs X body (tS g W mb)) (hc : X.calm = true := by rfl) (hs : ∀ x, foldedSetIterable iter X.env x = pure x := by intro _; rfl) :
    PS X (.For tg iter body [] pos) (tS g W (mFor mi mt mb)) :=
  ps_mono (ps_for hp hc hi hg hb hs) fun E σ H ⟨ρ, h, μ, sr, hr, bk⟩ => stepS (rel := JRr rl) (ma := mi) (E := E) sr hr bk fun J a h1 H1 μ1 m1 sr1 hr1 jr bk1 => by
    refine ⟨fun i m σ' H' => m = a.1.length - i ∧ i ≤ a.1.length ∧ ∃ ρ' h' μ', Mon g H1 H' μ1 μ' ∧ SR g H' μ' σ' ρ' ∧ HR g H' μ' h' ∧ BkS g H' μ' (forGo a.2 mt mb (a.1.drop i) ρ' h') E W, ⟨a.1.length, by simp, Nat.zero_le _, ρ, h1, μ1, Mon.refl, sr1, hr1, by simpa using bk1⟩, ?_⟩
    rintro i m σ' H' ⟨rfl, hi, ρ', h', μ', m', sr', hr', bk'⟩
    by_cases hlt : i < a.1.length
    · have ed : a.1.drop i = a.1[i] :: a.1.drop (i + 1) := List.drop_eq_getElem_cons hlt
      rw [ed] at bk'
      unfold forGo at bk'
      split at bk'
      · rename_i gd
        obtain ⟨jg, _⟩ := jr i H' μ' h' m' hr' gd
        obtain ⟨go, yl⟩ := jg hlt
        refine .inr ⟨go, fun σ2 H2 => i + 1 ≤ a.1.length ∧ ∃ ρ2 h2 μ2, Mon g H1 H2 μ1 μ2 ∧ SR g H2 μ2 σ2 ρ2 ∧ HR g H2 μ2 h2 ∧ BkS g H2 μ2 (forGo a.2 mt mb (a.1.drop (i + 1)) ρ2 h2) E W, fun σ2 H2 q => ⟨a.1.length - (i + 1), by omega, rfl, q.1, q.2⟩, fun x Hy y => ?_⟩
        obtain ⟨d, hd, my, hry, vy⟩ := yl x Hy y
        rw [List.getElem?_eq_getElem hlt] at hd
        cases hd
        refine ⟨ρ', h', μ', _, sr'.mono my, hry, vy, ?_⟩
        split at bk'
        · rename_i ρ1 e1
          intro σ3 sr3
          refine ⟨ρ1, h', μ', sr3, hry, ?_⟩
          have mm := m'.trans my
          cases e2 : mb ρ1 h' with
          | nx ρ4 h4 => rw [e2] at bk'; exact fun σ4 H4 μ4 m4 sr4 hr4 => ⟨hlt, ρ4, h4, μ4, mm.trans m4, sr4, hr4, BkS.mono (my.trans m4) bk'⟩
          | ct ρ4 h4 => rw [e2] at bk'; exact fun σ4 H4 μ4 m4 sr4 hr4 => ⟨hlt, ρ4, h4, μ4, mm.trans m4, sr4, hr4, BkS.mono (my.trans m4) bk'⟩
          | bk ρ4 h4 => rw [e2] at bk'; exact BkS.mono my bk'
          | rt d4 h4 => rw [e2] at bk'; exact BkS.mono my bk'
          | exc x4 fs4 ρ4 h4 => rw [e2] at bk'; exact BkS.mono my bk'
          | bad => rw [e2] at bk'; exact bk'
        · exact bk'.elim
      · exact bk'.elim
    · have e : i = a.1.length := by omega
      subst e
      rw [List.drop_length] at bk'
      unfold forGo at bk'
      split at bk'
      · rename_i gd
        exact .inl ⟨(jr _ H' μ' h' m' hr' gd).2 (Nat.le_refl _), bk' σ' H' μ' Mon.refl sr' hr'⟩
      · exact bk'.elim
theorem sx_while {c : Expr} {mc : MT} (n : Nat) (hp : PassesOwn (model X.prog X.w) X.A X.env X.xe) (hc : PT X c (tT g W mc)) (hb : PSs X body (tS g W mb)) : PS X (.While c body [] pos) (tS g W (mWhile n mc mb)) :=
  ps_mono (ps_while hp hc hb) fun E σ H ⟨ρ, h, μ, sr, hr, bk⟩ => by
    refine ⟨fun m σ' H' => ∃ ρ' h' μ', SR g H' μ' σ' ρ' ∧ HR g H' μ' h' ∧ BkS g H' μ' (whGo mc mb m ρ' h') E W, ⟨n, ρ, h, μ, sr, hr, bk⟩, ?_⟩
    rintro m σ' H' ⟨ρ', h', μ', sr', hr', bk'⟩
    cases m with
    | zero => exact bk'.elim
    | succ m =>
      unfold whGo at bk'
      refine stepS (rel := fun _ => eqR) (ma := mc) (E := E) sr' hr' bk' fun b b' h1 H1 μ1 m1 sr1 hr1 vb bk1 => ?_
      cases vb
      cases b with
      | false => exact bk1 σ' H1 μ1 Mon.refl sr1 hr1
      | true =>
        refine ⟨fun σ2 H2 => ∃ ρ2 h2 μ2, SR g H2 μ2 σ2 ρ2 ∧ HR g H2 μ2 h2 ∧ BkS g H2 μ2 (whGo mc mb m ρ2 h2) E W, fun σ2 H2 q => ⟨m, Nat.lt_succ_self m, q⟩, ρ', h1, μ1, sr1, hr1, ?_⟩
        simp only [if_true] at bk1
        cases e2 : mb ρ' h1 with
        | nx ρ4 h4 => rw [e2] at bk1; exact fun σ4 H4 μ4 m4 sr4 hr4 => ⟨ρ4, h4, μ4, sr4, hr4, BkS.mono m4 bk1⟩
        | ct ρ4 h4 => rw [e2] at bk1; exact fun σ4 H4 μ4 m4 sr4 hr4 => ⟨ρ4, h4, μ4, sr4, hr4, BkS.mono m4 bk1⟩
        | bk ρ4 h4 => rw [e2] at bk1; exact bk1
        | rt d4 h4 => rw [e2] at bk1; exact bk1
        | exc x4 fs4 ρ4 h4 => rw [e2] at bk1; exact bk1
        | bad => rw [e2] at bk1; exact bk1
end

/-! ### a def by its body -/
def startD (n N : Nat) (ds : List D) : Slots := ds.map some ++ List.replicate (N - n) none
def mFun (n N : Nat) (body : MS) : List D → MH → R D := fun ds h => if ds.length = n then match body (startD n N ds) h with
  | .nx _ h' => .ok .non h'
  | .rt d h' => .ok d h'
  | .exc x fs _ h' => .exc x fs h'
  | _ => .bad else .bad
theorem spM_len {g : G} {n N : Nat} {body : MS} {vs : List V} {H : Hp} {Q : VK} {E : XK} (h : spM g (mFun n N body) vs H Q E) : vs.length = n := by
  obtain ⟨ds, hh, μ, v, hr, bk⟩ := h
  unfold mFun at bk
  split at bk
  · rename_i e; rw [v.length]; exact e
  · exact bk.elim
theorem spM_run {g : G} {ps N : List Str} {body : MS} {vs : List V} {H : Hp} {Q : VK} {E : XK} (h : spM g (mFun ps.length N.length body) vs H Q E) : tS g (fun c d _ H' => E c d H') body { nx := fun _ H' => Q .non H', rt := Q } (L2.start N vs) H := by
  have hl := spM_len h
  obtain ⟨ds, hh, μ, v, hr, bk⟩ := h
  unfold mFun at bk
  split at bk
  · rename_i e
    refine ⟨startD ps.length N.length ds, hh, μ, ?_, hr, ?_⟩
    · unfold L2.start startD
      rw [hl]
      exact SR.start _ v
    · cases q : body (startD ps.length N.length ds) hh with
      | nx ρ h' => rw [q] at bk; exact fun σ' H' μ' m sr hr' => bk .non H' μ' m hr' .non
      | rt d h' => rw [q] at bk; exact fun v H' μ' m hr' vd => bk v H' μ' m hr' vd
      | bk ρ h' => rw [q] at bk; exact bk.elim
      | ct ρ h' => rw [q] at bk; exact bk.elim
      | exc x fs ρ h' => rw [q] at bk; exact fun cls d σ' H' μ' m sr hr' xr => bk cls d H' μ' m hr' xr
      | bad => rw [q] at bk; exact bk
  · exact bk.elim
section
variable {P : Program} {w : World} {K : PySem.W.Frag} {mg : Str → Option Value} {base : Heap} {g : G}
theorem fn_mk {x qual : Str} {st : Stmt} {f : Addr} {fd : FuncData} {N ps : List Str} {k : Nat} {body : MS} (F : Fun K x qual st f fd) (S : FnScope N ps (defScope st))
    (hb : ∀ (cdv : Value) (A : Around) (outer : List Env) (s : Shared) (H : Hp) (E : XK), Room k (A.deeper (PyProof.Rows.envOfC qual (defScope st) s.heap.objs.size f cdv)) →
      PSs (cxOf (L2.CX P w) P w K mg base N qual (defScope st) f cdv A outer s H E) (defBody st) (tS g (fun c d _ H' => E c d H') body)) :
    FnOk P w K mg base (L2.CX P w) (k + 1) f fd ps (spM g (mFun ps.length N.length body)) :=
  F.okX S (fun vs H Q E h => spM_len h) fun cdv A outer s H vs Q E hr h => ⟨_, hb cdv A outer s H E hr, spM_run h⟩
theorem fn_none {f : Addr} {fd : FuncData} {ps : List Str} {k : Nat} {F : List D → MH → R D} (hF : ∀ ds h, F ds h = .bad) : FnOk P w K mg base (L2.CX P w) k f fd ps (spM g F) := by
  have no : ∀ vs H Q E, ¬ spM g F vs H Q E := fun vs H Q E ⟨ds, h, μ, _, _, bk⟩ => by rw [hF] at bk; exact bk
  exact ⟨fun vs H Q E h => absurd h (no vs H Q E), fun A outer s H args us vs Q E _ _ _ _ h => absurd h (no vs H Q E)⟩
end
end Mi

namespace Mi
open PySem L2

/-! ### list comprehensions -/
abbrev W0 : WX := fun _ _ _ _ => False
def mYes : MT := fun _ h => .ok true h
def wipeD (ρ : Slots) : List Nat → Slots
  | [] => ρ
  | v :: vs => (wipeD ρ vs).set v none
theorem SR.wipe {g : G} {H : Hp} {μ : List Addr} {σ : St} {ρ : Slots} (h : SR g H μ σ ρ) : ∀ vs : List Nat, SR g H μ (L2.wipe σ vs) (wipeD ρ vs)
  | [] => h
  | v :: vs => (SR.wipe h vs).unset v none
def lcGo (gd : MH → Bool) (tg : MG) (tt : MT) (te : ME) (c : Nat) (ρ : Slots) : List D → MH → R D
  | [], h => if gd h = true then .ok (.ref c) h else .bad
  | d :: ds, h => if gd h = true then match tg d ρ with
    | some ρ1 => match tt ρ1 h with
      | .ok false h1 => lcGo gd tg tt te c ρ ds h1
      | .ok true h1 => match te ρ1 h1 with
        | .ok y h2 => match h2[c]? with
          | some (.lst acc) => if acc.length < 1000000 then lcGo gd tg tt te c ρ ds (h2.set c (.lst (acc ++ [y]))) else .bad
          | _ => .bad
        | _ => .bad
      | _ => .bad
    | none => .bad else .bad
def mLc (it : MI) (tg : MG) (tt : MT) (te : ME) (vs : List Nat) : ME := fun ρ h => (it ρ h).bind fun a h1 => lcGo a.2 tg tt te h1.length (wipeD ρ vs) a.1 (h1 ++ [.lst []])
/-- a target by its very slots -/
structure TgOk (rl : Rl) (g : G) (t : TG) (m : MG) (vs : List Nat) : Prop where
  run : ∀ (v : V) (d : D) (σ : St) (ρ : Slots) (H : Hp) (μ : List Addr) (h : MH) (Q : St → Hp → Prop), HR g H μ h → rl g H μ v d → SR g H μ (L2.wipe σ vs) ρ →
    match m d ρ with
    | some ρ' => (∀ σ', SR g H μ σ' ρ' → L2.wipe σ' vs = L2.wipe σ vs → Q σ' H) → t v (L2.wipe σ vs) H Q
    | none => True
theorem tg_name {g : G} (j : Nat) : TgOk VR g (gName j) (mgName j) [j] := ⟨fun v d σ ρ H μ h Q hr vd sr => by
  intro k
  refine k _ (sr.set j vd) ?_
  show ((σ.set j none).set j (some v)).set j none = σ.set j none
  rw [List.set_set, List.set_set]⟩
theorem tg_pair0 {g : G} {j k : Nat} (hjk : j ≠ k) {v : V} {d : D} {σ : St} {ρ : Slots} {H : Hp} {μ : List Addr} {Q : St → Hp → Prop} {p : Addr} {xs : List V} {ds : List D} (hs : SqT g.K H p xs) (vs : VRs g H μ xs ds) (sr : SR g H μ (L2.wipe σ [j, k]) ρ) :
    match mgTup (mgCons (mgName j) (mgCons (mgName k) mgNil)) (.tup ds) ρ with
    | some ρ' => (∀ σ', SR g H μ σ' ρ' → L2.wipe σ' [j, k] = L2.wipe σ [j, k] → Q σ' H) → gTup g.K 2 (gCons (gName j) (gCons (gName k) gNil)) (.ref p) (L2.wipe σ [j, k]) H Q
    | none => True := by
  cases vs with
  | nil => trivial
  | cons a b =>
    cases b with
    | nil => trivial
    | cons b c =>
      cases c with
      | cons _ _ => trivial
      | nil =>
        rename_i x dx y dy
        show (∀ σ', SR g H μ σ' ((ρ.set j (some dx)).set k (some dy)) → L2.wipe σ' [j, k] = L2.wipe σ [j, k] → Q σ' H) → _
        intro q
        refine ⟨p, _, rfl, hs, rfl, _, _, rfl, _, _, rfl, rfl, ?_⟩
        refine q _ ((sr.set j a).set k b) ?_
        show ((((((σ.set k none).set j none).set j (some x)).set k (some y)).set k none).set j none) = (σ.set k none).set j none
        rw [List.set_set, List.set_set, List.set_comm _ _ (Ne.symm hjk), List.set_set, List.set_comm none none hjk, List.set_set]
theorem tg_pair {g : G} {j k : Nat} (hjk : j ≠ k) : TgOk VR g (gTup g.K 2 (gCons (gName j) (gCons (gName k) gNil))) (mgTup (mgCons (mgName j) (mgCons (mgName k) mgNil))) [j, k] := ⟨fun v d σ ρ H μ h Q hr vd sr => by
  cases vd with
  | tup hs vs => exact tg_pair0 hjk (v := .non) (d := .non) hs.sq vs sr
  | _ => trivial⟩
theorem tg_pairZ {g : G} {j k : Nat} (hjk : j ≠ k) : TgOk SV g (gTup g.K 2 (gCons (gName j) (gCons (gName k) gNil))) (mgTup (mgCons (mgName j) (mgCons (mgName k) mgNil))) [j, k] := ⟨fun v d σ ρ H μ h Q hr vd sr => by
  obtain ⟨p, xs, ds, rfl, rfl, hs, vs⟩ := vd
  exact tg_pair0 hjk (v := .non) (d := .non) hs vs sr⟩
section
variable {g : G} {W : WX} {mi : MI} {mt : MG} {tt : MT} {te : ME} {t : TG} {vs : List Nat} {rl : Rl}
theorem lc_of (ht : TgOk rl g t mt vs) {σ : St} {H : Hp} {Q : VK} (q : tE g W (mLc mi mt tt te vs) σ H Q) : tLc (tIr rl g W mi) t (tT g W0 tt) (tE g W0 te) vs σ H Q := by
  obtain ⟨ρ, h, μ, sr, hr, bk⟩ := q
  refine step (rel := JRr rl) (rel' := VR) (ma := mi) (Q' := Q) sr hr bk fun J a h1 H1 μ1 m1 sr1 hr1 jr bk1 Dd hD => ?_
  have mD : Mon g H1 (upd H1 Dd (.lst [])) μ1 (μ1 ++ [Dd]) := mon_push hD
  refine ⟨fun i m H' => m = a.1.length - i ∧ i ≤ a.1.length ∧ ∃ h' μ', Mon g H1 H' μ1 μ' ∧ μ'[h1.length]? = some Dd ∧ HR g H' μ' h' ∧ Bk (VR g) g H' μ' (lcGo a.2 mt tt te h1.length (wipeD ρ vs) (a.1.drop i) h') Q (fun c d H' => W c d σ H'),
    ⟨a.1.length, by simp, Nat.zero_le _, h1 ++ [.lst []], μ1 ++ [Dd], mD, ix_push hr1.len, hr1.push (u := .lst []) hD ⟨[], upd_same, .nil⟩, Bk.mono mD (by simpa using bk1)⟩, ?_⟩
  rintro i m H' ⟨rfl, hi, h', μ', m', hc, hr', bk'⟩
  by_cases hlt : i < a.1.length
  · have ed : a.1.drop i = a.1[i] :: a.1.drop (i + 1) := List.drop_eq_getElem_cons hlt
    rw [ed] at bk'
    unfold lcGo at bk'
    split at bk'
    · rename_i gd
      obtain ⟨jg, _⟩ := jr i H' μ' h' m' hr' gd
      obtain ⟨go, yl⟩ := jg hlt
      refine .inr ⟨go, fun H2 => i + 1 ≤ a.1.length ∧ ∃ h2 μ2, Mon g H1 H2 μ1 μ2 ∧ μ2[h1.length]? = some Dd ∧ HR g H2 μ2 h2 ∧ Bk (VR g) g H2 μ2 (lcGo a.2 mt tt te h1.length (wipeD ρ vs) (a.1.drop (i + 1)) h2) Q (fun c d H' => W c d σ H'), fun H2 q => ⟨a.1.length - (i + 1), by omega, rfl, q.1, q.2⟩, fun x Hy y => ?_⟩
      obtain ⟨d, hd, my, hry, vy⟩ := yl x Hy y
      rw [List.getElem?_eq_getElem hlt] at hd
      cases hd
      have mm := m'.trans my
      have srw : SR g Hy μ' (L2.wipe σ vs) (wipeD ρ vs) := (sr1.mono mm).wipe vs
      have tr := ht.run x a.1[i] σ (wipeD ρ vs) Hy μ' h' (fun σ2 H2 => L2.wipe σ2 vs = L2.wipe σ vs ∧ tT g W0 tt σ2 H2 fun b H3 => if b = true then tE g W0 te σ2 H3 fun y H4 => ∃ acc, H4 Dd = some (.lst acc) ∧ acc.length < sizeLine ∧ (i + 1 ≤ a.1.length ∧ ∃ h2 μ2, Mon g H1 (upd H4 Dd (.lst (acc ++ [y]))) μ1 μ2 ∧ μ2[h1.length]? = some Dd ∧ HR g (upd H4 Dd (.lst (acc ++ [y]))) μ2 h2 ∧ Bk (VR g) g (upd H4 Dd (.lst (acc ++ [y]))) μ2 (lcGo a.2 mt tt te h1.length (wipeD ρ vs) (a.1.drop (i + 1)) h2) Q (fun c d H' => W c d σ H')) else (i + 1 ≤ a.1.length ∧ ∃ h2 μ2, Mon g H1 H3 μ1 μ2 ∧ μ2[h1.length]? = some Dd ∧ HR g H3 μ2 h2 ∧ Bk (VR g) g H3 μ2 (lcGo a.2 mt tt te h1.length (wipeD ρ vs) (a.1.drop (i + 1)) h2) Q (fun c d H' => W c d σ H'))) hry vy srw
      split at bk'
      · rename_i ρ1 e1
        rw [e1] at tr
        refine tr fun σ2 sr2 ew => ⟨ew, ρ1, h', μ', sr2, hry, ?_⟩
        cases e2 : tt ρ1 h' with
        | bad => rw [e2] at bk'; exact bk'.elim
        | exc x fs h3 => rw [e2] at bk'; exact bk'.elim
        | ok b h3 =>
          rw [e2] at bk'
          intro b' H3 μ3 m3 hr3 eb
          cases eb
          cases b with
          | false => exact ⟨hlt, h3, μ3, mm.trans m3, m3.ix hc, hr3, Bk.mono (my.trans m3) bk'⟩
          | true =>
            refine ⟨ρ1, h3, μ3, sr2.mono m3, hr3, ?_⟩
            simp only at bk'
            cases e3 : te ρ1 h3 with
            | bad => rw [e3] at bk'; exact bk'.elim
            | exc x fs h4 => rw [e3] at bk'; exact bk'.elim
            | ok y h4 =>
              rw [e3] at bk'
              intro yv H4 μ4 m4 hr4 vyv
              simp only at bk'
              split at bk'
              · rename_i acc ea
                split at bk'
                · rename_i hl
                  have hc4 : μ4[h1.length]? = some Dd := m4.ix (m3.ix hc)
                  obtain ⟨xs, hx, vx⟩ := hr4.lst hc4 ea
                  have m5 : Mon g H4 (upd H4 Dd (.lst (xs ++ [yv]))) μ4 μ4 := (Saf.lst hx).mon
                  exact ⟨xs, hx, by rw [vx.length]; exact sz6' hl, hlt, _, μ4, ((mm.trans m3).trans m4).trans m5, hc4,
                    hr4.write (u := .lst (acc ++ [y])) hc4 ea rfl (Saf.lst hx) rfl ⟨_, upd_same, (vx.append (.one vyv)).mono m5⟩, Bk.mono (((my.trans m3).trans m4).trans m5) bk'⟩
                · exact bk'.elim
              · exact bk'.elim
      · exact bk'.elim
    · exact bk'.elim
  · have e : i = a.1.length := by omega
    subst e
    rw [List.drop_length] at bk'
    unfold lcGo at bk'
    split at bk'
    · rename_i gd
      exact .inl ⟨(jr _ H' μ' h' m' hr' gd).2 (Nat.le_refl _), bk' _ H' μ' Mon.refl hr' (.ref hc)⟩
    · exact bk'.elim
end
section
variable {X : Cx} {g : G} {W : WX} {elt tg iter : Expr} {ifs : List Expr} {scope : Scope} {own : List (Str × Nat)} {pos spos py : Pos} {mi : MI} {mt : MG} {tt : MT} {te : ME} {t : TG} {rl : Rl}
theorem st_one {Y : Cx} {c : Expr} (h : PT Y c (tT g W0 tt)) : PTs Y [c] (tT g W0 tt) := pts_one h
theorem st_nil {Y : Cx} : PTs Y [] (tT g W0 mYes) := ⟨fun pins s σ H Q I ⟨ρ, h, μ, sr, hr, bk⟩ => (pts_nil (X := Y)).run pins s σ H Q I (bk true H μ Mon.refl hr rfl)⟩
theorem se_lc (hN : X.N.Nodup) (hi : PI X tg iter (tIr rl g W mi)) (ok : BlkOk X.N X.env.scope scope own) (ht : TgOk rl g t mt (own.map (·.2)))
    (hg : ∀ (s : Shared) (H : Hp) (C : Addr) (cl : List (Str × Addr)) (fp : List Addr), PG (X.blk s H scope (PySem.compEnvC scope cl C X.env) fp) tg t) (hts : ∀ (s : Shared) (H : Hp) (C : Addr) (cl : List (Str × Addr)) (fp : List Addr), PTs (X.blk s H scope (PySem.compEnvC scope cl C X.env) fp) ifs (tT g W0 tt))
    (he : ∀ (s : Shared) (H : Hp) (C : Addr) (cl : List (Str × Addr)) (fp : List Addr), PE (X.blk s H scope (PySem.compEnvC scope cl C X.env) fp) elt (tE g W0 te)) (hc : X.calm = true := by rfl) (hs : ∀ x, foldedSetIterable iter X.env x = pure x := by intro _; rfl) :
    PE X (.ListComp elt [⟨tg, iter, ifs, 0⟩] scope pos) (tE g W (mLc mi mt tt te (own.map (·.2)))) :=
  pe_mono (pe_lc hc hN hi ok hg hts he hs) fun σ H Q q => lc_of ht q
theorem sx_setLc {i : Nat} {y : Str} (hN : X.N.Nodup) (hi : PI X tg iter (tIr rl g W mi)) (ok : BlkOk X.N X.env.scope scope own) (ht : TgOk rl g t mt (own.map (·.2)))
    (hg : ∀ (s : Shared) (H : Hp) (C : Addr) (cl : List (Str × Addr)) (fp : List Addr), PG (X.blk s H scope (PySem.compEnvC scope cl C X.env) fp) tg t) (hts : ∀ (s : Shared) (H : Hp) (C : Addr) (cl : List (Str × Addr)) (fp : List Addr), PTs (X.blk s H scope (PySem.compEnvC scope cl C X.env) fp) ifs (tT g W0 tt))
    (he : ∀ (s : Shared) (H : Hp) (C : Addr) (cl : List (Str × Addr)) (fp : List Addr), PE (X.blk s H scope (PySem.compEnvC scope cl C X.env) fp) elt (tE g W0 te))
    (hy : X.N[i]? = some y := by rfl) (hyl : X.env.scope.names.lookup y = some .local := by rfl) (hsw : swapsWith (.ListComp elt [⟨tg, iter, ifs, 0⟩] scope pos) (some (.Name y py)) spos.line X.env = pure true := by exact sw_true rfl rfl rfl (by decide +kernel))
    (hc : X.calm = true := by rfl) (hs : ∀ x, foldedSetIterable iter X.env x = pure x := by intro _; rfl) :
    PS X (.Assign [.Name y py] (.ListComp elt [⟨tg, iter, ifs, 0⟩] scope pos) spos) (tS g W (mAsg i (mLc mi mt tt te (own.map (·.2))))) :=
  ps_mono (ps_setLc hc hN hy hyl hsw hi ok hg hts he hs) fun E σ H ⟨ρ, h, μ, sr, hr, bk⟩ => lc_of ht (W := W) (stepS (W := W) (rel := VR) (ma := mLc mi mt tt te (own.map (fun p : Str × Nat => p.2))) (f := fun d h1 => .nx (ρ.set i (some d)) h1) (E := E) sr hr bk fun v d h1 H1 μ1 m1 sr1 hr1 vx bk1 => bk1 _ H1 μ1 Mon.refl (sr1.set i vx) hr1)
end

/-! ### stores to places, to several names -/
def dSet (x y d : D) (h : MH) : R Unit := match x, y with
  | .ref i, .int k => match h[i]? with
    | some (.lst l) => match ixN l.length k with
      | some j => .ok () (h.set i (.lst (l.set j d)))
      | none => .bad
    | _ => .bad
  | _, _ => .bad
def mSetIx (o i e : ME) : MS := fun ρ h => (e ρ h).out ρ fun d h1 => (o ρ h1).out ρ fun x h2 => (i ρ h2).out ρ fun y h3 => (dSet x y d h3).out ρ fun _ h4 => .nx ρ h4
def mAsgT (m : MG) (e : ME) : MS := fun ρ h => (e ρ h).out ρ fun d h1 => match m d ρ with
  | some ρ' => .nx ρ' h1
  | none => .bad
section
variable {X : Cx} {g : G} {W : WX} {o i e tg : Expr} {mo mi me : ME} {pos p2 : Pos} {mt : MG}
theorem sx_setIx (ho : PE X o (tE g W mo)) (hi : PE X i (tE g W mi)) (he : PE X e (tE g W me))
    (ha : ∀ v, assign (.Subscript o i p2) X.env v = (do
      let ov ← holding [v] (eval o X.env)
      let iv ← holding [v, ov] (eval i X.env)
      standAt p2
      holding [v, ov, iv] (setItem ov iv v)
      release [v, ov, iv] []) := by intro _; rfl)
    (hs : swapsWithSole [.Subscript o i p2] e pos.line X.env = pure false := by rfl) (hw : swappedStores [.Subscript o i p2] e X.env = pure none := by rfl)
    (h1 : (assignEach [.Subscript o i p2] X.env).map (·.2) = [assign (.Subscript o i p2) X.env] := by rfl) : PS X (.Assign [.Subscript o i p2] e pos) (tS g W (mSetIx mo mi me)) :=
  ps_mono (ps_asg he (pg_sub ho hi set_list ha) hs hw h1) fun E σ H ⟨ρ, h, μ, sr, hr, bk⟩ =>
    stepS (rel := VR) (ma := me) (E := E) sr hr bk fun v d h1 H1 μ1 m1 sr1 hr1 vd bk1 => stepS (rel := VR) (ma := mo) (E := E) sr1 hr1 bk1 fun x a h2 H2 μ2 m2 sr2 hr2 vx bk2 => stepS (rel := VR) (ma := mi) (E := E) sr2 hr2 bk2 fun y b h3 H3 μ3 m3 sr3 hr3 vy bk3 => by
      have vx := vx.mono m3
      have vd := (vd.mono m2).mono m3
      cases vx with
      | @ref p c hi =>
        cases vy with
        | int k =>
          simp only [dSet] at bk3
          split at bk3
          · rename_i l q
            split at bk3
            · rename_i j ej
              obtain ⟨xs, hx, vxs⟩ := hr3.lst hi q
              refine ⟨p, xs, k, j, rfl, rfl, hx, by rw [vxs.length]; exact ej, ?_⟩
              have m5 : Mon g H3 (upd H3 p (.lst (xs.set j v))) μ3 μ3 := (Saf.lst hx).mon
              exact bk3 _ _ μ3 m5 (sr3.mono m5) (hr3.write (u := .lst (l.set j d)) hi q rfl (Saf.lst hx) rfl ⟨_, upd_same, (vxs.set j vd).mono m5⟩)
            · exact bk3.elim
          · exact bk3.elim
        | _ => exact bk3.elim
      | _ => exact bk3.elim
theorem sx_setT (he : PE X e (tE g W me)) (hg : PG X tg (tG g mt)) (hs : swapsWithSole [tg] e pos.line X.env = pure false := by rfl) (hw : swappedStores [tg] e X.env = pure none := by rfl)
    (h1 : (assignEach [tg] X.env).map (·.2) = [assign tg X.env] := by rfl) : PS X (.Assign [tg] e pos) (tS g W (mAsgT mt me)) :=
  ps_mono (ps_asg he hg hs hw h1) fun E σ H ⟨ρ, h, μ, sr, hr, bk⟩ => stepS (rel := VR) (ma := me) (E := E) sr hr bk fun v d h1 H1 μ1 m1 sr1 hr1 vd bk1 => by
    refine ⟨ρ, h1, μ1, d, sr1, hr1, vd, ?_⟩
    split at bk1
    · rename_i ρ' e'
      (try rw [e'])
      exact fun σ' sr' => bk1 σ' H1 μ1 Mon.refl sr' hr1
    · exact bk1.elim
end

/-! ### the end of a law -/
def cmOf (K : PySem.W.Frag) : Str → Option Addr := fun x => match PySem.W.nsIn K mainGlobals x with
  | some (some (.ref C)) => some C
  | _ => none
abbrev gOf (w : World) (K : PySem.W.Frag) : G := ⟨K, cmOf K, w⟩
theorem vrs_ints {g : G} {H : Hp} {μ : List Addr} : ∀ ns : List Int, VRs g H μ (ns.map V.int) (ns.map D.int)
  | [] => .nil
  | n :: ns => .cons (.int n) (vrs_ints ns)
theorem law_start {K : PySem.W.Frag} {F : List D → MH → R D} {H : Hp} {a : Addr} {ns : List Int} {h' : MH} (hO : Only H) (hS : SqL K H a (ns.map V.int)) (hF : F [.ref 0] [.rol (ns.map D.int)] = .ok (.bl true) h') :
    spM (gOf w K) F [.ref a] H (fun v _ => v = .bl true) fun _ _ _ => False := by
  refine ⟨[.ref 0], [.rol (ns.map D.int)], [a], .cons (.ref rfl) .nil, ⟨rfl, fun i p o hi ho => ?_, fun i j p o u hi hj ho hu m1 m2 => ?_⟩, ?_⟩
  · cases i with
    | succ i => simp at hi
    | zero =>
      simp at hi ho
      subst hi ho
      refine ⟨ns.map V.int, ?_, vrs_ints ns⟩
      rcases hS with (h | h) | h
      · rcases hO a with z | ⟨o, xs, z⟩
        · rw [h] at z; cases z
        · rw [h] at z; cases z
      · exact .inl h
      · exact .inr h
  · cases i with
    | succ i => simp at hi
    | zero => cases j with
      | succ j => simp at hj
      | zero => rfl
  · rw [hF]
    intro v H' μ' m hr hv
    cases hv
    rfl
theorem law_end {l : PySem.W.OpenLaw} {k : Nat} {q : Program} {loose : List Str} {XP : (Str → Option Value) → Heap → Prop} {YP : World → Heap → Prop} {d : DefRec} {K : Params → PySem.W.Frag} {x : Str} {F : List D → MH → R D}
    (hF : ∀ ns : List Int, ns.length ≤ 63 → (∀ z ∈ ns, Builtin.Int.intBits z ≤ 1048576) → ∃ h', F [.ref 0] [.rol (ns.map D.int)] = .ok (.bl true) h')
    (hn : l.most = some 63) (hdf : d.params.defaults = []) (hr : Room k PySem.callerA)
    (hY : ∀ (w : World) (h : Heap), YP w h → (K w.params).In h)
    (FF : ∀ (w : World) (mg : Str → Option Value) (fa : Addr) (h : Heap), (K w.params).In h → h.Ns mainGlobals mg → mg d.name = some (.ref fa) →
      ∃ fd : FuncData, (∀ (s : Shared) (u : Value), BindsTo s fd ⟨[u], []⟩ [(x, u)]) ∧
        ∀ base : Heap, (K w.params).In base → base.Ns mainGlobals mg → FnOk l.prog w (K w.params) mg base (L2.CX l.prog w) k fa fd [x] (spM (gOf w (K w.params)) F)) :
    PySem.W.WalkO q loose XP YP l.row.toRowW d [] (fun f vs => PySem.call f vs) :=
  walk_ofB (n := 63) (k := k) (x := x) (CX := fun w => L2.CX l.prog w) (sp := fun w => spM (gOf w (K w.params)) F) hn (by decide) hdf hr hY FF
    (fun w H a ns h1 h2 hO hS => let ⟨h', e⟩ := hF ns h1 h2; law_start hO hS e)
    fun w H s e s' c => by
      obtain ⟨_, _, _, _, _, _, _, _, _, _, _, _, z⟩ := c
      exact z
end Mi

namespace Mi
open PySem L2

/-! ### dict displays of no pair, of one -/
def keyD : D → Option Key
  | .int i => some (.inl i)
  | .str x => some (.inr x)
  | _ => none
def mDict0 : ME := fun _ h => .ok (.ref h.length) (h ++ [.dK []])
def mDict1 (k v : ME) : ME := fun ρ h => (k ρ (h ++ [.dK []])).bind fun x h1 => (v ρ h1).bind fun y h2 => if h2[h.length]? = some (.dK []) then match keyD x with
  | some kk => .ok (.ref h.length) (h2.set h.length (.dK [(kk, y)]))
  | none => .bad else .bad
section
variable {X : Cx} {g : G} {W : WX} {k v : Expr} {mk mv : ME} {pos : Pos}
theorem se_dict0 : PE X (.Dict [] [] pos) (tE g W mDict0) := pe_mono pe_dnewK fun σ H Q ⟨ρ, h, μ, sr, hr, bk⟩ p hp =>
  bk _ _ (μ ++ [p]) (mon_push hp) (hr.push (u := .dK []) hp ⟨[], upd_same, .nil⟩) (.ref (ix_push hr.len))
theorem keyD_of {H : Hp} {μ : List Addr} {x : V} {d : D} {kk : Key} (vx : VR g H μ x d) (e : keyD d = some kk) : x = kV kk := by
  cases vx <;> cases e <;> rfl
theorem se_dict1 (hk : PE X k (tE g W mk)) (hv : PE X v (tE g W mv)) : PE X (.Dict [some k] [v] pos) (tE g W (mDict1 mk mv)) :=
  pe_mono (pe_disp (pps_cons hk hv pps_nil) rfl rfl (by simp) (by show 1 ≤ 15; decide)) fun σ H Q ⟨ρ, h, μ, sr, hr, bk⟩ p hp => by
    have m0 : Mon g H (upd H p (.dK [])) μ (μ ++ [p]) := mon_push hp
    have hr0 : HR g (upd H p (.dK [])) (μ ++ [p]) (h ++ [.dK []]) := hr.push (u := .dK []) hp ⟨[], upd_same, .nil⟩
    have i0 : (μ ++ [p])[h.length]? = some p := ix_push hr.len
    refine step (rel := VR) (rel' := VR) (ma := mk) (Q' := Q) (sr.mono m0) hr0 (Bk.mono m0 bk) fun x a h1 H1 μ1 m1 sr1 hr1 vx bk1 => ?_
    refine step (rel := VR) (rel' := VR) (ma := mv) (Q' := Q) sr1 hr1 bk1 fun y b h2 H2 μ2 m2 sr2 hr2 vy bk2 => ?_
    split at bk2
    · rename_i e
      have i2 : μ2[h.length]? = some p := m2.ix (m1.ix i0)
      obtain ⟨kv, e1, e2⟩ := hr2.ob _ _ _ i2 e
      cases e2
      split at bk2
      · rename_i kk ek
        refine ⟨e1, [(kk, y)], ?_, (by show 1 ≤ 15; decide), ?_⟩
        · rw [keyD_of (vx.mono m2) ek]; rfl
        · have em : mergeK [] [(kk, y)] = [(kk, y)] := rfl
          rw [em]
          have m5 : Mon g H2 (upd H2 p (.dK [(kk, y)])) μ2 μ2 := (Saf.dK e1).mon
          exact bk2 _ _ μ2 m5 (hr2.write (u := .dK [(kk, b)]) i2 e rfl (Saf.dK e1) rfl ⟨_, upd_same, .cons (vy.mono m5) .nil⟩) (.ref i2)
      · exact bk2.elim
    · exact bk2.elim
end
/-! ### a < b < c -/
def mChain (f f' : D → D → MH → R D) (a b c : ME) : ME := fun ρ h => (a ρ h).bind fun x h1 => (b ρ h1).bind fun y h2 => (f x y h2).bind fun z h3 => match z with
  | .bl true => (c ρ h3).bind fun w h4 => f' y w h4
  | .bl false => .ok (.bl false) h3
  | _ => .bad
section
variable {X : Cx} {g : G} {W : WX} {a b c : Expr} {ma mb mc : ME} {pos : Pos} {r r' : R2} {f f' : D → D → MH → R D} {op op' : CmpOp}
theorem chain_of (hs : S2 g r f) (hs' : S2 g r' f') {σ : St} {H : Hp} {Q : VK} (q : tE g W (mChain f f' ma mb mc) σ H Q) : tChain r r' (tE g W ma) (tE g W mb) (tE g W mc) σ H Q := by
  obtain ⟨ρ, h, μ, sr, hr, bk⟩ := q
  refine step (rel := VR) (rel' := VR) (ma := ma) (Q' := Q) sr hr bk fun x a h1 H1 μ1 m1 sr1 hr1 vx bk1 => ?_
  refine step (rel := VR) (rel' := VR) (ma := mb) (Q' := Q) sr1 hr1 bk1 fun y b h2 H2 μ2 m2 sr2 hr2 vy bk2 => ?_
  refine hs H2 μ2 h2 x y a b _ (fun c d H' => W c d σ H') hr2 (vx.mono m2) vy (Bk.bind bk2 fun z h3 zv H3 μ3 _ m3 hr3 vz bk3 => ?_)
  cases vz with
  | bl k =>
    cases k with
    | true =>
      refine ⟨true, rfl, ?_⟩
      exact step (rel := VR) (rel' := VR) (ma := mc) (Q' := Q) (sr2.mono m3) hr3 bk3 fun w c h4 H4 μ4 m4 sr4 hr4 vw bk4 => hs' H4 μ4 h4 y w b c Q _ hr4 ((vy.mono m3).mono m4) vw bk4
    | false => exact ⟨false, rfl, bk3.val hr3 (.bl false)⟩
  | _ => exact bk3.elim
theorem se_chain (ho : OpR X (compareOp op) r) (hs : S2 g r f) (ho' : OpR X (compareOp op') r') (hs' : S2 g r' f') (ha : PE X a (tE g W ma)) (hb : PE X b (tE g W mb)) (hc : PE X c (tE g W mc))
    (hm : lastMarks [op, op'] [b, c] = false := by with_unfolding_all rfl) : PE X (.Compare a [op, op'] [b, c] pos) (tE g W (mChain f f' ma mb mc)) := pe_mono (pe_chain ho ho' ha hb hc hm) fun σ H Q q => chain_of hs hs' q
theorem st_chain (ho : OpR X (compareOp op) r) (hs : S2 g r f) (ho' : OpR X (compareOp op') r') (hs' : S2 g r' f') (ha : PE X a (tE g W ma)) (hb : PE X b (tE g W mb)) (hc : PE X c (tE g W mc))
    (hm : lastMarks [op, op'] [b, c] = false := by with_unfolding_all rfl) : PT X (.Compare a [op, op'] [b, c] pos) (tT g W (mB (mChain f f' ma mb mc))) :=
  pt_mono (pt_chain ho ho' ha hb hc hm) fun σ H Q ⟨ρ, h, μ, sr, hr, bk⟩ => by
    refine chain_of (W := W) (f := f) (f' := f') hs hs' ⟨ρ, h, μ, sr, hr, ?_⟩
    refine Bk.bind bk fun a h1 b H1 μ1 _ m hr1 hv bk1 => ?_
    cases hv with
    | bl b => exact ⟨b, rfl, bk1 b H1 μ1 Mon.refl hr1 rfl⟩
    | _ => exact bk1.elim
end

/-! ### defs by their names -/
/-- a def of the top, as it stands: its text, its parameters -/
def Df (K : PySem.W.Frag) (mg : Str → Option Value) (x : Str) (st : Stmt) (ps : List Str) : Prop := ∃ f fd, Fun K x x st f fd ∧ mg x = some (.ref f) ∧ Binds K fd ps []
/-- a def that does what F says, by at most k calls deep -/
def Cal (P : Program) (w : World) (K : PySem.W.Frag) (mg : Str → Option Value) (base : Heap) (x : Str) (k : Nat) (F : List D → MH → R D) : Prop :=
  ∃ f fd ps, FnOk P w K mg base (L2.CX P w) k f fd ps (spM (gOf w K) F) ∧ mg x = some (.ref f) ∧ PySem.W.keepIn K (.ref f) = true ∧ Binds K fd ps []
section
variable {P : Program} {w : World} {K : PySem.W.Frag} {mg : Str → Option Value} {base : Heap}
theorem df_mk {h : Heap} {x : Str} {st : Stmt} {ps : List Str} {f : Addr} {oc : Value} {od an : Option Addr} {osl : Array (Option Value)} {kV doc pm cdv ct : Value} (X : K.In h) (G : h.Ns mainGlobals mg)
    (a : PySem.W.nsIn K mainGlobals x = some (some (.ref f))) (l : K.lookup f = some ⟨oc, od, .func (PySem.W.fnOf x x (defArgs st) (defBody st) (defScope st) .none kV doc pm an cdv ct), osl⟩)
    (c : PySem.W.codeIn K cdv x = true) (k : PySem.W.keepIn K (.ref f) = true)
    (hb : ∀ (kV doc pm : Value) (an : Option Addr) (cdv ct : Value) (us : List Value), us.length = ps.length → bindArgs (PySem.W.fnOf x x (defArgs st) (defBody st) (defScope st) .none kV doc pm an cdv ct) ⟨us, []⟩ = pure (ps.zip us)) : Df K mg x st ps := by
  have F := fun_mk (st := st) l c k
  exact ⟨f, _, F, PySem.W.mg_of X G a, F.binds hb⟩
theorem Cal.mono {x : Str} {j k : Nat} {F : List D → MH → R D} (c : Cal P w K mg base x j F) (h : j ≤ k) : Cal P w K mg base x k F := by
  obtain ⟨f, fd, ps, F1, m, kp, b⟩ := c
  exact ⟨f, fd, ps, F1.mono h, m, kp, b⟩
theorem cal_mk {x : Str} {st : Stmt} {N ps : List Str} {k : Nat} {body : MS} (d : Df K mg x st ps) (S : FnScope N ps (defScope st))
    (hb : ∀ (f : Addr) (cdv : Value) (A : Around) (outer : List Env) (s : Shared) (H : Hp) (E : XK), Room k (A.deeper (PyProof.Rows.envOfC x (defScope st) s.heap.objs.size f cdv)) →
      PSs (cxOf (L2.CX P w) P w K mg base N x (defScope st) f cdv A outer s H E) (defBody st) (tS (gOf w K) (fun c d _ H' => E c d H') body)) : Cal P w K mg base x (k + 1) (mFun ps.length N.length body) := by
  obtain ⟨f, fd, F, m, b⟩ := d
  exact ⟨f, fd, ps, fn_mk F S (hb f), m, F.kp, b⟩
theorem cal_none {x : Str} {st : Stmt} {ps : List Str} {k : Nat} {F : List D → MH → R D} (d : Df K mg x st ps) (hF : ∀ ds h, F ds h = .bad) : Cal P w K mg base x k F := by
  obtain ⟨f, fd, F, m, b⟩ := d
  exact ⟨f, fd, ps, fn_none hF, m, F.kp, b⟩
end
section
variable {X : Cx} {W : WX} {e : Expr} {es : List Expr} {mr : MA} {p pos : Pos}
theorem se_callC {x : Str} {k : Nat} {F : List D → MH → R D} (c : Cal X.prog X.w X.K X.mg X.base x k F) (hr : Room k X.A) (tk : Takes X W) (ha : PA X (e :: es) (tA (gOf X.w X.K) W mr)) (hg : Gl X x := by rfl) (hdb : (x == ("__debug__" : Str)) = false := by decide)
    (he : starEach (e :: es) X.env = (false, eval e X.env) :: starEach es X.env := by rfl) (hpl : (backTo pos (starEach es X.env)).any (·.1) = false := by rfl) : PE X (.Call (.Name x p) (e :: es) [] pos) (tE (gOf X.w X.K) W (mCall F mr)) := by
  obtain ⟨f, fd, ps, F1, m, kp, b⟩ := c
  exact se_call F1 hr tk m kp b ha hg hdb he hpl
end
end Mi

/-! How the mirror's parts are reckoned, step by step: each rule speaks of a part that stands applied to its slots and heap, and leaves what follows unapplied. -/
namespace Mi
open PySem L2

/-- not by rfl, so that simp writes each step out (the kernel then needs no unfolding of the rest) -/
theorem nr {α : Sort _} {a b : α} (h : a = b) : a = b := h
@[simp] theorem mVar_zero (d : D) (r : Slots) (h : MH) : mVar 0 (some d :: r) h = .ok d h := nr rfl
@[simp] theorem mVar_succ (n : Nat) (o : Option D) (r : Slots) (h : MH) : mVar (n + 1) (o :: r) h = mVar n r h := nr rfl
@[simp] theorem mC_ev (d : D) (ρ : Slots) (h : MH) : mC d ρ h = .ok d h := nr rfl
def bin2 (f : D → D → MH → R D) (b : ME) (ρ : Slots) (r : R D) : R D := r.bind fun x h1 => (b ρ h1).bind fun y h2 => f x y h2
def bin1 (f : D → D → MH → R D) (x : D) (r : R D) : R D := r.bind fun y h2 => f x y h2
@[simp] theorem mBin_ev (f : D → D → MH → R D) (a b : ME) (ρ : Slots) (h : MH) : mBin f a b ρ h = bin2 f b ρ (a ρ h) := nr rfl
@[simp] theorem bin2_ok (f : D → D → MH → R D) (b : ME) (ρ : Slots) (x : D) (h : MH) : bin2 f b ρ (.ok x h) = bin1 f x (b ρ h) := nr rfl
@[simp] theorem bin1_ok (f : D → D → MH → R D) (x y : D) (h : MH) : bin1 f x (.ok y h) = f x y h := nr rfl
def un1 (f : D → MH → R D) : R D → R D
  | .ok y h2 => f y h2
  | .exc x fs h => .exc x fs h
  | .bad => .bad
@[simp] theorem mUn_ev (f : D → MH → R D) (a : ME) (ρ : Slots) (h : MH) : mUn f a ρ h = un1 f (a ρ h) := by
  unfold mUn un1
  cases a ρ h <;> rfl
@[simp] theorem un1_ok (f : D → MH → R D) (x : D) (h : MH) : un1 f (.ok x h) = f x h := nr rfl
@[simp] theorem mNil_ev (ρ : Slots) (h : MH) : mNil ρ h = .ok [] h := nr rfl
def cons1 (t : MA) (ρ : Slots) (r : R D) : R (List D) := r.bind fun x h1 => (t ρ h1).bind fun xs h2 => .ok (x :: xs) h2
def cons2 (x : D) (r : R (List D)) : R (List D) := r.bind fun xs h2 => .ok (x :: xs) h2
@[simp] theorem mCons_ev (a : ME) (r : MA) (ρ : Slots) (h : MH) : mCons a r ρ h = cons1 r ρ (a ρ h) := nr rfl
@[simp] theorem cons1_ok (r : MA) (ρ : Slots) (x : D) (h : MH) : cons1 r ρ (.ok x h) = cons2 x (r ρ h) := nr rfl
@[simp] theorem cons2_ok (x : D) (xs : List D) (h : MH) : cons2 x (.ok xs h) = .ok (x :: xs) h := nr rfl
def call1 (F : List D → MH → R D) : R (List D) → R D
  | .ok xs h1 => F xs h1
  | .exc x fs h => .exc x fs h
  | .bad => .bad
@[simp] theorem mCall_ev (F : List D → MH → R D) (a : MA) (ρ : Slots) (h : MH) : mCall F a ρ h = call1 F (a ρ h) := by
  unfold mCall call1
  cases a ρ h <;> rfl
@[simp] theorem call1_ok (F : List D → MH → R D) (xs : List D) (h : MH) : call1 F (.ok xs h) = F xs h := nr rfl
def tup1 : R (List D) → R D
  | .ok xs h1 => if xs.length ≤ 1000000 then .ok (.tup xs) h1 else .bad
  | .exc x fs h => .exc x fs h
  | .bad => .bad
@[simp] theorem mTup_ev (a : MA) (ρ : Slots) (h : MH) : mTup a ρ h = tup1 (a ρ h) := by
  unfold mTup tup1
  cases a ρ h <;> rfl
@[simp] theorem tup1_ok (xs : List D) (h : MH) : tup1 (.ok xs h) = if xs.length ≤ 1000000 then .ok (.tup xs) h else .bad := nr rfl
def lst1 : R (List D) → R D
  | .ok xs h1 => if xs.length ≤ 1000000 then .ok (.ref h1.length) (h1 ++ [.lst xs]) else .bad
  | .exc x fs h => .exc x fs h
  | .bad => .bad
@[simp] theorem mLst_ev (a : MA) (ρ : Slots) (h : MH) : mLst a ρ h = lst1 (a ρ h) := by
  unfold mLst lst1
  cases a ρ h <;> rfl
@[simp] theorem lst1_ok (xs : List D) (h : MH) : lst1 (.ok xs h) = if xs.length ≤ 1000000 then .ok (.ref h.length) (h ++ [.lst xs]) else .bad := nr rfl
/-! tests -/
def b1 : R D → R Bool
  | .ok (.bl b) h => .ok b h
  | .ok _ _ => .bad
  | .exc x fs h => .exc x fs h
  | .bad => .bad
@[simp] theorem mB_ev (a : ME) (ρ : Slots) (h : MH) : mB a ρ h = b1 (a ρ h) := by
  unfold mB b1
  cases a ρ h with
  | ok x h1 => cases x <;> rfl
  | _ => rfl
@[simp] theorem b1_ok (b : Bool) (h : MH) : b1 (.ok (.bl b) h) = .ok b h := nr rfl
def and1 (b : MT) (ρ : Slots) : R Bool → R Bool
  | .ok true h => b ρ h
  | .ok false h => .ok false h
  | .exc x fs h => .exc x fs h
  | .bad => .bad
def or1 (b : MT) (ρ : Slots) : R Bool → R Bool
  | .ok true h => .ok true h
  | .ok false h => b ρ h
  | .exc x fs h => .exc x fs h
  | .bad => .bad
def not1 : R Bool → R Bool
  | .ok b h => .ok (!b) h
  | .exc x fs h => .exc x fs h
  | .bad => .bad
@[simp] theorem mAnd_ev (a b : MT) (ρ : Slots) (h : MH) : mAnd a b ρ h = and1 b ρ (a ρ h) := by
  unfold mAnd and1
  cases a ρ h with
  | ok x h1 => cases x <;> rfl
  | _ => rfl
@[simp] theorem mOr_ev (a b : MT) (ρ : Slots) (h : MH) : mOr a b ρ h = or1 b ρ (a ρ h) := by
  unfold mOr or1
  cases a ρ h with
  | ok x h1 => cases x <;> rfl
  | _ => rfl
@[simp] theorem mNot_ev (a : MT) (ρ : Slots) (h : MH) : mNot a ρ h = not1 (a ρ h) := by
  unfold mNot not1
  cases a ρ h <;> rfl
@[simp] theorem and1_t (b : MT) (ρ : Slots) (h : MH) : and1 b ρ (.ok true h) = b ρ h := nr rfl
@[simp] theorem and1_f (b : MT) (ρ : Slots) (h : MH) : and1 b ρ (.ok false h) = .ok false h := nr rfl
@[simp] theorem or1_t (b : MT) (ρ : Slots) (h : MH) : or1 b ρ (.ok true h) = .ok true h := nr rfl
@[simp] theorem or1_f (b : MT) (ρ : Slots) (h : MH) : or1 b ρ (.ok false h) = b ρ h := nr rfl
@[simp] theorem not1_ok (b : Bool) (h : MH) : not1 (.ok b h) = .ok (!b) h := nr rfl
def andV1 (b : ME) (ρ : Slots) : R D → R D
  | .ok (.bl true) h => b ρ h
  | .ok (.bl false) h => .ok (.bl false) h
  | .ok _ _ => .bad
  | .exc x fs h => .exc x fs h
  | .bad => .bad
def orV1 (b : ME) (ρ : Slots) : R D → R D
  | .ok (.bl true) h => .ok (.bl true) h
  | .ok (.bl false) h => b ρ h
  | .ok _ _ => .bad
  | .exc x fs h => .exc x fs h
  | .bad => .bad
def notV1 : R D → R D
  | .ok (.bl b) h => .ok (.bl (!b)) h
  | .ok _ _ => .bad
  | .exc x fs h => .exc x fs h
  | .bad => .bad
@[simp] theorem mAndV_ev (a b : ME) (ρ : Slots) (h : MH) : mAndV a b ρ h = andV1 b ρ (a ρ h) := by
  unfold mAndV andV1
  cases a ρ h with
  | ok x h1 => cases x with
    | bl b => cases b <;> rfl
    | _ => rfl
  | _ => rfl
@[simp] theorem mOrV_ev (a b : ME) (ρ : Slots) (h : MH) : mOrV a b ρ h = orV1 b ρ (a ρ h) := by
  unfold mOrV orV1
  cases a ρ h with
  | ok x h1 => cases x with
    | bl b => cases b <;> rfl
    | _ => rfl
  | _ => rfl
@[simp] theorem mNotV_ev (a : ME) (ρ : Slots) (h : MH) : mNotV a ρ h = notV1 (a ρ h) := by
  unfold mNotV notV1
  cases a ρ h with
  | ok x h1 => cases x <;> rfl
  | _ => rfl
@[simp] theorem andV1_t (b : ME) (ρ : Slots) (h : MH) : andV1 b ρ (.ok (.bl true) h) = b ρ h := nr rfl
@[simp] theorem andV1_f (b : ME) (ρ : Slots) (h : MH) : andV1 b ρ (.ok (.bl false) h) = .ok (.bl false) h := nr rfl
@[simp] theorem orV1_t (b : ME) (ρ : Slots) (h : MH) : orV1 b ρ (.ok (.bl true) h) = .ok (.bl true) h := nr rfl
@[simp] theorem orV1_f (b : ME) (ρ : Slots) (h : MH) : orV1 b ρ (.ok (.bl false) h) = b ρ h := nr rfl
@[simp] theorem notV1_ok (b : Bool) (h : MH) : notV1 (.ok (.bl b) h) = .ok (.bl (!b)) h := nr rfl
def ifE1 (a b : ME) (ρ : Slots) : R Bool → R D
  | .ok true h => a ρ h
  | .ok false h => b ρ h
  | .exc x fs h => .exc x fs h
  | .bad => .bad
@[simp] theorem mIfE_ev (c : MT) (a b : ME) (ρ : Slots) (h : MH) : mIfE c a b ρ h = ifE1 a b ρ (c ρ h) := by
  unfold mIfE ifE1
  cases c ρ h with
  | ok x h1 => cases x <;> rfl
  | _ => rfl
@[simp] theorem ifE1_t (a b : ME) (ρ : Slots) (h : MH) : ifE1 a b ρ (.ok true h) = a ρ h := nr rfl
@[simp] theorem ifE1_f (a b : ME) (ρ : Slots) (h : MH) : ifE1 a b ρ (.ok false h) = b ρ h := nr rfl
/-! isinstance, slices, methods -/
def isi1 (T : String) : R D → R D
  | .ok x h => match (tyName h x).bind fun n => kitB n T with
    | some b => .ok (.bl b) h
    | none => .bad
  | .exc x fs h => .exc x fs h
  | .bad => .bad
@[simp] theorem mIsi_ev (T : String) (a : ME) (ρ : Slots) (h : MH) : mIsi T a ρ h = isi1 T (a ρ h) := by
  unfold mIsi isi1
  cases a ρ h <;> rfl
theorem isi1_ok (T : String) (x : D) (h : MH) {n : String} {b : Bool} (hn : tyName h x = some n) (hb : kitB n T = some b) : isi1 T (.ok x h) = .ok (.bl b) h := by
  unfold isi1
  simp only [hn, Option.bind_some, hb]
@[simp] theorem isi_str_str (x : Str) (h : MH) : isi1 "str" (.ok (.str x) h) = .ok (.bl true) h := isi1_ok _ _ _ rfl (by decide +kernel)
@[simp] theorem isi_str_int (x : Int) (h : MH) : isi1 "str" (.ok (.int x) h) = .ok (.bl false) h := isi1_ok _ _ _ rfl (by decide +kernel)
@[simp] theorem isi_str_non (h : MH) : isi1 "str" (.ok .non h) = .ok (.bl false) h := isi1_ok _ _ _ rfl (by decide +kernel)
@[simp] theorem isi_str_bl (b : Bool) (h : MH) : isi1 "str" (.ok (.bl b) h) = .ok (.bl false) h := isi1_ok _ _ _ rfl (by decide +kernel)
@[simp] theorem isi_str_tup (l : List D) (h : MH) : isi1 "str" (.ok (.tup l) h) = .ok (.bl false) h := isi1_ok _ _ _ rfl (by decide +kernel)
@[simp] theorem isi_bool_bl (b : Bool) (h : MH) : isi1 "bool" (.ok (.bl b) h) = .ok (.bl true) h := isi1_ok _ _ _ rfl (by decide +kernel)
@[simp] theorem isi_bool_int (b : Int) (h : MH) : isi1 "bool" (.ok (.int b) h) = .ok (.bl false) h := isi1_ok _ _ _ rfl (by decide +kernel)
@[simp] theorem isi_int_int (b : Int) (h : MH) : isi1 "int" (.ok (.int b) h) = .ok (.bl true) h := isi1_ok _ _ _ rfl (by decide +kernel)
@[simp] theorem isi_tup_tup (l : List D) (h : MH) : isi1 "tuple" (.ok (.tup l) h) = .ok (.bl true) h := isi1_ok _ _ _ rfl (by decide +kernel)
@[simp] theorem isi_tup_str (x : Str) (h : MH) : isi1 "tuple" (.ok (.str x) h) = .ok (.bl false) h := isi1_ok _ _ _ rfl (by decide +kernel)
@[simp] theorem isi_tup_int (x : Int) (h : MH) : isi1 "tuple" (.ok (.int x) h) = .ok (.bl false) h := isi1_ok _ _ _ rfl (by decide +kernel)
@[simp] theorem isi_tup_non (h : MH) : isi1 "tuple" (.ok .non h) = .ok (.bl false) h := isi1_ok _ _ _ rfl (by decide +kernel)
theorem isi_ref (T : String) (i : Nat) (h : MH) (l : List D) (hl : getL h i = some l) {b : Bool} (hb : kitB "list" T = some b) : isi1 T (.ok (.ref i) h) = .ok (.bl b) h := by
  refine isi1_ok _ _ _ (n := "list") ?_ hb
  unfold getL at hl
  unfold tyName
  split at hl <;> simp_all
theorem isi_dict (T : String) (i : Nat) (h : MH) (l : List (Key × D)) (hl : h[i]? = some (.dK l)) {b : Bool} (hb : kitB "dict" T = some b) : isi1 T (.ok (.ref i) h) = .ok (.bl b) h := by
  refine isi1_ok _ _ _ (n := "dict") ?_ hb
  unfold tyName
  simp [hl]
@[simp] theorem mNo_ev (ρ : Slots) (h : MH) : mNo ρ h = .ok none h := nr rfl
def some1 : R D → R (Option Int)
  | .ok (.int i) h => .ok (some i) h
  | .ok _ _ => .bad
  | .exc x fs h => .exc x fs h
  | .bad => .bad
@[simp] theorem mSome_ev (a : ME) (ρ : Slots) (h : MH) : mSome a ρ h = some1 (a ρ h) := by
  unfold mSome some1
  cases a ρ h with
  | ok x h1 => cases x <;> rfl
  | _ => rfl
@[simp] theorem some1_ok (i : Int) (h : MH) : some1 (.ok (.int i) h) = .ok (some i) h := nr rfl
def sl1 (lo hi : MP) (ρ : Slots) (r : R D) : R D := r.bind fun x h1 => (lo ρ h1).bind fun l h2 => (hi ρ h2).bind fun u h3 => dSl x l u h3
def sl2 (x : D) (hi : MP) (ρ : Slots) (r : R (Option Int)) : R D := r.bind fun l h2 => (hi ρ h2).bind fun u h3 => dSl x l u h3
def sl3 (x : D) (l : Option Int) (r : R (Option Int)) : R D := r.bind fun u h3 => dSl x l u h3
@[simp] theorem mSl_ev (a : ME) (lo hi : MP) (ρ : Slots) (h : MH) : mSl a lo hi ρ h = sl1 lo hi ρ (a ρ h) := nr rfl
@[simp] theorem sl1_ok (lo hi : MP) (ρ : Slots) (x : D) (h : MH) : sl1 lo hi ρ (.ok x h) = sl2 x hi ρ (lo ρ h) := nr rfl
@[simp] theorem sl2_ok (x : D) (hi : MP) (ρ : Slots) (l : Option Int) (h : MH) : sl2 x hi ρ (.ok l h) = sl3 x l (hi ρ h) := nr rfl
@[simp] theorem sl3_ok (x : D) (l u : Option Int) (h : MH) : sl3 x l (.ok u h) = dSl x l u h := nr rfl
def meth1 (T : D → MH → Bool) (f : D → List D → MH → R D) (t : MA) (ρ : Slots) (r : R D) : R D := r.bind fun x h1 => if T x h1 = true then (t ρ h1).bind fun xs h2 => f x xs h2 else .bad
def meth2 (f : D → List D → MH → R D) (x : D) (r : R (List D)) : R D := r.bind fun xs h2 => f x xs h2
@[simp] theorem mMeth_ev (T : D → MH → Bool) (f : D → List D → MH → R D) (a : ME) (r : MA) (ρ : Slots) (h : MH) : mMeth T f a r ρ h = meth1 T f r ρ (a ρ h) := nr rfl
@[simp] theorem meth1_ok (T : D → MH → Bool) (f : D → List D → MH → R D) (r : MA) (ρ : Slots) (x : D) (h : MH) : meth1 T f r ρ (.ok x h) = if T x h = true then meth2 f x (r ρ h) else .bad := nr rfl
@[simp] theorem meth2_ok (f : D → List D → MH → R D) (x : D) (xs : List D) (h : MH) : meth2 f x (.ok xs h) = f x xs h := nr rfl
@[simp] theorem isListD_ref (i : Nat) (h : MH) : isListD (.ref i) h = (getL h i).isSome := nr rfl
@[simp] theorem isStrD_str (x : Str) (h : MH) : isStrD (.str x) h = true := nr rfl
/-! statements -/
def Out.then (b : MS) : Out → Out
  | .nx ρ h => b ρ h
  | o => o
@[simp] theorem mSeq_ev (a b : MS) (ρ : Slots) (h : MH) : mSeq a b ρ h = (a ρ h).then b := by
  unfold mSeq Out.then
  cases a ρ h <;> rfl
@[simp] theorem then_nx (b : MS) (ρ : Slots) (h : MH) : Out.then b (.nx ρ h) = b ρ h := nr rfl
@[simp] theorem then_rt (b : MS) (d : D) (h : MH) : Out.then b (.rt d h) = .rt d h := nr rfl
@[simp] theorem then_bk (b : MS) (ρ : Slots) (h : MH) : Out.then b (.bk ρ h) = .bk ρ h := nr rfl
@[simp] theorem then_ct (b : MS) (ρ : Slots) (h : MH) : Out.then b (.ct ρ h) = .ct ρ h := nr rfl
@[simp] theorem then_exc (b : MS) (x : Str) (fs : List (Str × D)) (ρ : Slots) (h : MH) : Out.then b (.exc x fs ρ h) = .exc x fs ρ h := nr rfl
@[simp] theorem mSkip_ev (ρ : Slots) (h : MH) : mSkip ρ h = .nx ρ h := nr rfl
@[simp] theorem mBreak_ev (ρ : Slots) (h : MH) : mBreak ρ h = .bk ρ h := nr rfl
@[simp] theorem mCont_ev (ρ : Slots) (h : MH) : mCont ρ h = .ct ρ h := nr rfl
@[simp] theorem mRetN_ev (ρ : Slots) (h : MH) : mRetN ρ h = .rt .non h := nr rfl
def asg1 (i : Nat) (ρ : Slots) : R D → Out
  | .ok d h => .nx (ρ.set i (some d)) h
  | .exc x fs h => .exc x fs ρ h
  | .bad => .bad
def ret1 (ρ : Slots) : R D → Out
  | .ok d h => .rt d h
  | .exc x fs h => .exc x fs ρ h
  | .bad => .bad
def drop1 (ρ : Slots) : R D → Out
  | .ok d h => .nx ρ h
  | .exc x fs h => .exc x fs ρ h
  | .bad => .bad
def if1 (a b : MS) (ρ : Slots) : R Bool → Out
  | .ok true h => a ρ h
  | .ok false h => b ρ h
  | .exc x fs h => .exc x fs ρ h
  | .bad => .bad
@[simp] theorem mAsg_ev (i : Nat) (e : ME) (ρ : Slots) (h : MH) : mAsg i e ρ h = asg1 i ρ (e ρ h) := by
  unfold mAsg asg1
  cases e ρ h <;> rfl
@[simp] theorem asg1_ok (i : Nat) (ρ : Slots) (d : D) (h : MH) : asg1 i ρ (.ok d h) = .nx (ρ.set i (some d)) h := nr rfl
@[simp] theorem mRet_ev (e : ME) (ρ : Slots) (h : MH) : mRet e ρ h = ret1 ρ (e ρ h) := by
  unfold mRet ret1
  cases e ρ h <;> rfl
@[simp] theorem ret1_ok (ρ : Slots) (d : D) (h : MH) : ret1 ρ (.ok d h) = .rt d h := nr rfl
@[simp] theorem mDrop_ev (e : ME) (ρ : Slots) (h : MH) : mDrop e ρ h = drop1 ρ (e ρ h) := by
  unfold mDrop drop1
  cases e ρ h <;> rfl
@[simp] theorem drop1_ok (ρ : Slots) (d : D) (h : MH) : drop1 ρ (.ok d h) = .nx ρ h := nr rfl
@[simp] theorem mIf_ev (c : MT) (a b : MS) (ρ : Slots) (h : MH) : mIf c a b ρ h = if1 a b ρ (c ρ h) := by
  unfold mIf if1
  cases c ρ h with
  | ok x h1 => cases x <;> rfl
  | _ => rfl
@[simp] theorem if1_t (a b : MS) (ρ : Slots) (h : MH) : if1 a b ρ (.ok true h) = a ρ h := nr rfl
@[simp] theorem if1_f (a b : MS) (ρ : Slots) (h : MH) : if1 a b ρ (.ok false h) = b ρ h := nr rfl
theorem if1_ok (a b : MS) (ρ : Slots) (c : Bool) (h : MH) : if1 a b ρ (.ok c h) = if c = true then a ρ h else b ρ h := by cases c <;> rfl
def for1 (tg : MG) (body : MS) (ρ : Slots) : R (List D × (MH → Bool)) → Out
  | .ok a h => forGo a.2 tg body a.1 ρ h
  | .exc x fs h => .exc x fs ρ h
  | .bad => .bad
@[simp] theorem mFor_ev (it : MI) (tg : MG) (body : MS) (ρ : Slots) (h : MH) : mFor it tg body ρ h = for1 tg body ρ (it ρ h) := by
  unfold mFor for1
  cases it ρ h <;> rfl
@[simp] theorem for1_ok (tg : MG) (body : MS) (ρ : Slots) (l : List D) (gd : MH → Bool) (h : MH) : for1 tg body ρ (.ok (l, gd) h) = forGo gd tg body l ρ h := nr rfl
def rg1 (f : Int → Nat → List D) : R D → R (List D × (MH → Bool))
  | .ok x h => dR1 f x h
  | .exc x fs h => .exc x fs h
  | .bad => .bad
@[simp] theorem mRange1_ev (a : ME) (ρ : Slots) (h : MH) : mRange1 a ρ h = rg1 rangeD (a ρ h) := by
  unfold mRange1 rg1
  cases a ρ h <;> rfl
@[simp] theorem mRev1_ev (a : ME) (ρ : Slots) (h : MH) : mRev1 a ρ h = rg1 revRangeD (a ρ h) := by
  unfold mRev1 rg1
  cases a ρ h <;> rfl
@[simp] theorem rg1_ok (f : Int → Nat → List D) (j : Int) (h : MH) : rg1 f (.ok (.int j) h) = if lim62 j = true then .ok (f 0 j.toNat, yes) h else .bad := nr rfl
def rg2 (f : Int → Nat → List D) (b : ME) (ρ : Slots) (r : R D) : R (List D × (MH → Bool)) := r.bind fun x h => (b ρ h).bind fun y h2 => dR2 f x y h2
def rg3 (f : Int → Nat → List D) (x : D) (r : R D) : R (List D × (MH → Bool)) := r.bind fun y h => dR2 f x y h
@[simp] theorem mRange2_ev (a b : ME) (ρ : Slots) (h : MH) : mRange2 a b ρ h = rg2 rangeD b ρ (a ρ h) := nr rfl
@[simp] theorem mRev2_ev (a b : ME) (ρ : Slots) (h : MH) : mRev2 a b ρ h = rg2 revRangeD b ρ (a ρ h) := nr rfl
@[simp] theorem rg2_ok (f : Int → Nat → List D) (b : ME) (ρ : Slots) (x : D) (h : MH) : rg2 f b ρ (.ok x h) = rg3 f x (b ρ h) := nr rfl
@[simp] theorem rg3_ok (f : Int → Nat → List D) (i j : Int) (h : MH) : rg3 f (.int i) (.ok (.int j) h) = if lim62 i = true ∧ lim62 j = true then .ok (f i (j - i).toNat, yes) h else .bad := nr rfl
def iter1 : R D → R (List D × (MH → Bool))
  | .ok x h => match itemsOf x h with
    | some r => .ok r h
    | none => .bad
  | .exc x fs h => .exc x fs h
  | .bad => .bad
@[simp] theorem mIter_ev (a : ME) (ρ : Slots) (h : MH) : mIter a ρ h = iter1 (a ρ h) := by
  unfold mIter iter1
  cases a ρ h <;> rfl
@[simp] theorem iter1_tup (l : List D) (h : MH) : iter1 (.ok (.tup l) h) = .ok (l, yes) h := nr rfl
@[simp] theorem iter1_str (z : Str) (h : MH) : iter1 (.ok (.str z) h) = .ok (z.cps.toList.map fun c => .str ⟨#[c]⟩, yes) h := nr rfl
theorem iter1_ref (i : Nat) (h : MH) (l : List D) (hl : getL h i = some l) : iter1 (.ok (.ref i) h) = .ok (l, fun h' => decide (getL h' i = some l)) h := by
  simp [iter1, itemsOf, hl]
@[simp] theorem yes_ev (h : MH) : yes h = true := nr rfl
@[simp] theorem mgName_ev (i : Nat) (d : D) (ρ : Slots) : mgName i d ρ = some (ρ.set i (some d)) := nr rfl
/-- a def's end -/
def fin1 : Out → R D
  | .nx _ h => .ok .non h
  | .rt d h => .ok d h
  | .exc x fs _ h => .exc x fs h
  | _ => .bad
theorem mFun_ev (n N : Nat) (body : MS) (ds : List D) (h : MH) (hl : ds.length = n) : mFun n N body ds h = fin1 (body (startD n N ds) h) := by
  unfold mFun fin1
  rw [if_pos hl]
  try (cases body (startD n N ds) h <;> rfl)
@[simp] theorem fin1_nx (ρ : Slots) (h : MH) : fin1 (.nx ρ h) = .ok .non h := nr rfl
@[simp] theorem fin1_rt (d : D) (h : MH) : fin1 (.rt d h) = .ok d h := nr rfl
@[simp] theorem fin1_exc (x : Str) (fs : List (Str × D)) (ρ : Slots) (h : MH) : fin1 (.exc x fs ρ h) = .exc x fs h := nr rfl
theorem mFun1 (N : Nat) (body : MS) (a : D) (h : MH) : mFun 1 N body [a] h = fin1 (body (some a :: List.replicate (N - 1) none) h) := mFun_ev 1 N body [a] h rfl
theorem mFun2 (N : Nat) (body : MS) (a b : D) (h : MH) : mFun 2 N body [a, b] h = fin1 (body (some a :: some b :: List.replicate (N - 2) none) h) := mFun_ev 2 N body [a, b] h rfl
theorem mFun3 (N : Nat) (body : MS) (a b c : D) (h : MH) : mFun 3 N body [a, b, c] h = fin1 (body (some a :: some b :: some c :: List.replicate (N - 3) none) h) := mFun_ev 3 N body [a, b, c] h rfl
theorem mFun4 (N : Nat) (body : MS) (a b c d : D) (h : MH) : mFun 4 N body [a, b, c, d] h = fin1 (body (some a :: some b :: some c :: some d :: List.replicate (N - 4) none) h) := mFun_ev 4 N body [a, b, c, d] h rfl
theorem mFun5 (N : Nat) (body : MS) (a b c d e : D) (h : MH) : mFun 5 N body [a, b, c, d, e] h = fin1 (body (some a :: some b :: some c :: some d :: some e :: List.replicate (N - 5) none) h) := mFun_ev 5 N body [a, b, c, d, e] h rfl
@[simp] theorem rep0 : List.replicate 0 (none : Option D) = [] := nr rfl
theorem rep_succ (n : Nat) : List.replicate (n + 1) (none : Option D) = none :: List.replicate n none := rfl
/-! ### loops -/
/-- a loop that runs through or hands something back -/
theorem forGo_inv {gd : MH → Bool} {tg : MG} {body : MS} (I : Nat → Slots → MH → Prop) (P : D → MH → Prop) : ∀ (items : List D) (k : Nat) (ρ : Slots) (h : MH), I k ρ h →
    (∀ i ρ h, I i ρ h → gd h = true) →
    (∀ i d ρ h, items[i]? = some d → I (k + i) ρ h → ∃ ρ1, tg d ρ = some ρ1 ∧ ((∃ ρ' h', body ρ1 h = .nx ρ' h' ∧ I (k + i + 1) ρ' h') ∨ (∃ r h', body ρ1 h = .rt r h' ∧ P r h'))) →
    (∃ ρ' h', forGo gd tg body items ρ h = .nx ρ' h' ∧ I (k + items.length) ρ' h') ∨ (∃ r h', forGo gd tg body items ρ h = .rt r h' ∧ P r h')
  | [], k, ρ, h, h0, hg, hs => .inl ⟨ρ, h, by simp [forGo, hg k ρ h h0], h0⟩
  | d :: ds, k, ρ, h, h0, hg, hs => by
    obtain ⟨ρ1, e1, q⟩ := hs 0 d ρ h rfl h0
    rcases q with ⟨ρ', h', e2, i2⟩ | ⟨r, h', e2, p⟩
    · have e : forGo gd tg body (d :: ds) ρ h = forGo gd tg body ds ρ' h' := by
        rw [forGo, if_pos (hg k ρ h h0)]
        simp only [e1, e2]
      rw [e]
      rcases forGo_inv I P ds (k + 1) ρ' h' i2 hg (fun i d' ρ h hd hi => by
        have e3 : k + (i + 1) = k + 1 + i := by omega
        have := hs (i + 1) d' ρ h (by simpa using hd) (by rw [e3]; exact hi)
        rw [e3] at this
        exact this) with ⟨ρ2, h2, e4, i4⟩ | q
      · refine .inl ⟨ρ2, h2, e4, ?_⟩
        have : k + (d :: ds).length = k + 1 + ds.length := by rw [List.length_cons]; omega
        rw [this]
        exact i4
      · exact .inr q
    · refine .inr ⟨r, h', ?_, p⟩
      rw [forGo, if_pos (hg k ρ h h0)]
      simp only [e1, e2]
/-- a loop that runs through -/
theorem forGo_all {gd : MH → Bool} {tg : MG} {body : MS} (I : Nat → Slots → MH → Prop) {items : List D} {ρ : Slots} {h : MH} (h0 : I 0 ρ h) (hg : ∀ i ρ h, I i ρ h → gd h = true)
    (hs : ∀ i d ρ h, items[i]? = some d → I i ρ h → ∃ ρ1, tg d ρ = some ρ1 ∧ ∃ ρ' h', body ρ1 h = .nx ρ' h' ∧ I (i + 1) ρ' h') : ∃ ρ' h', forGo gd tg body items ρ h = .nx ρ' h' ∧ I items.length ρ' h' := by
  rcases forGo_inv (gd := gd) (tg := tg) (body := body) I (fun _ _ => False) items 0 ρ h h0 hg (fun i d ρ h hd hi => by
    rw [Nat.zero_add] at hi
    obtain ⟨ρ1, e1, q⟩ := hs i d ρ h hd hi
    exact ⟨ρ1, e1, .inl (by rw [Nat.zero_add]; exact q)⟩) with ⟨ρ', h', e, i⟩ | ⟨r, h', e, p⟩
  · rw [Nat.zero_add] at i
    exact ⟨ρ', h', e, i⟩
  · exact p.elim
theorem rangeD_get {i : Int} {n k : Nat} {d : D} (h : (rangeD i n)[k]? = some d) : k < n ∧ d = .int (i + (k : Int)) := by
  simp only [rangeD, List.getElem?_map, Option.map_eq_some_iff] at h
  obtain ⟨a, h1, h2⟩ := h
  have := List.getElem?_eq_some_iff.mp h1
  obtain ⟨lt, e⟩ := this
  simp at lt e
  subst e
  exact ⟨lt, h2.symm⟩
theorem revRangeD_get {i : Int} {n k : Nat} {d : D} (h : (revRangeD i n)[k]? = some d) : k < n ∧ d = .int (i + (n : Int) - 1 - (k : Int)) := by
  simp only [revRangeD, List.getElem?_map, Option.map_eq_some_iff] at h
  obtain ⟨a, h1, h2⟩ := h
  have := List.getElem?_eq_some_iff.mp h1
  obtain ⟨lt, e⟩ := this
  simp at lt e
  subst e
  exact ⟨lt, h2.symm⟩
@[simp] theorem rangeD_length (i : Int) (n : Nat) : (rangeD i n).length = n := by simp [rangeD]
@[simp] theorem revRangeD_length (i : Int) (n : Nat) : (revRangeD i n).length = n := by simp [revRangeD]
/-! ### numbers of bits, places -/
theorem bits_lt {i : Int} {n : Nat} (h : i.natAbs < 2 ^ n) : Builtin.Int.intBits i ≤ n := by
  unfold Builtin.Int.intBits
  split
  · omega
  · rename_i hz
    have : i.natAbs.log2 < n := (Nat.log2_lt (by simpa using hz)).mpr h
    omega
theorem bits_mono {i j : Int} (h : i.natAbs ≤ j.natAbs) : Builtin.Int.intBits i ≤ Builtin.Int.intBits j := by
  unfold Builtin.Int.intBits
  split
  · omega
  · rename_i hz
    have hz' : i.natAbs ≠ 0 := by simpa using hz
    have hj : j.natAbs ≠ 0 := by omega
    rw [if_neg (by simpa using hj)]
    have : i.natAbs.log2 ≤ j.natAbs.log2 := by
      have h1 : 2 ^ i.natAbs.log2 ≤ i.natAbs := Nat.log2_self_le hz'
      have := (Nat.le_log2 hj).mpr (Nat.le_trans h1 h)
      exact this
    omega
theorem atI_in {α : Type} {l : List α} {i : Int} (h0 : 0 ≤ i) (h1 : i < (l.length : Int)) : ∃ c, atI l i = some c ∧ l[i.toNat]? = some c := by
  have lt : i.toNat < l.length := by omega
  refine ⟨l[i.toNat], ?_, List.getElem?_eq_getElem lt⟩
  unfold atI ixN
  rw [if_pos h0, if_pos h1]
  simp [lt]
theorem atI_at {α : Type} {l : List α} {k : Nat} {c : α} (h : l[k]? = some c) : atI l (k : Int) = some c := by
  have lt := (List.getElem?_eq_some_iff.mp h).1
  unfold atI ixN
  rw [if_pos (by omega), if_pos (by omega)]
  simpa using h
/-! ### operators at plain values -/
section
variable (i j : Int) (x y : Str) (a b : Bool) (l m : List D) (h : MH)
@[simp] theorem dAdd_int : dAdd (.int i) (.int j) h = .ok (.int (i + j)) h := nr rfl
@[simp] theorem dAdd_str : dAdd (.str x) (.str y) h = if x.length + y.length ≤ 1000000 then .ok (.str (x ++ y)) h else .bad := nr rfl
@[simp] theorem dAdd_tup : dAdd (.tup l) (.tup m) h = if l.length + m.length ≤ 1000000 then .ok (.tup (l ++ m)) h else .bad := nr rfl
@[simp] theorem dSub_int : dSub (.int i) (.int j) h = .ok (.int (i - j)) h := nr rfl
theorem dMul_int : dMul (.int i) (.int j) h = if (Builtin.Int.intBits i : Int) + (Builtin.Int.intBits j : Int) ≤ 134217728 then .ok (.int (i * j)) h else .bad := rfl
@[simp] theorem dMul_str : dMul (.str x) (.int j) h = if j ≤ 1000000 ∧ -1000000 ≤ j ∧ x.length * j.toNat ≤ 1000000 then .ok (.str (Txt.mul x j)) h else .bad := nr rfl
theorem dFdiv_int : dFdiv (.int i) (.int j) h = if 0 < j ∧ j.natAbs.log2 < 9000 then .ok (.int (i / j)) h else .bad := rfl
@[simp] theorem dMod_int : dMod (.int i) (.int j) h = if 0 < j then .ok (.int (i % j)) h else .bad := nr rfl
@[simp] theorem dFdiv_small (h0 : 0 < j) (h1 : j < 18446744073709551616) : dFdiv (.int i) (.int j) h = .ok (.int (i / j)) h := by
  rw [dFdiv_int, if_pos ⟨h0, Nat.lt_trans (PySem.Flt.log2_lt_of (k := 64) (by decide) (by omega)) (by decide)⟩]
theorem dMul_bits {a b : Nat} (ha : Builtin.Int.intBits i ≤ a) (hb : Builtin.Int.intBits j ≤ b) (hab : a + b ≤ 134217728) : dMul (.int i) (.int j) h = .ok (.int (i * j)) h := by
  rw [dMul_int, if_pos (by omega)]
theorem bits_small {i : Int} (h0 : -18446744073709551616 < i) (h1 : i < 18446744073709551616) : Builtin.Int.intBits i ≤ 64 := bits_lt (by omega)
/-- a factor that is small, one that has not too many bits -/
theorem dMul_r (hi : Builtin.Int.intBits i ≤ 100000000) (h0 : -18446744073709551616 < j) (h1 : j < 18446744073709551616) : dMul (.int i) (.int j) h = .ok (.int (i * j)) h := dMul_bits i j h hi (bits_small h0 h1) (by decide)
theorem dMul_l (hi : Builtin.Int.intBits j ≤ 100000000) (h0 : -18446744073709551616 < i) (h1 : i < 18446744073709551616) : dMul (.int i) (.int j) h = .ok (.int (i * j)) h := dMul_bits i j h (bits_small h0 h1) hi (by decide)
theorem dMul_s (h0 : -18446744073709551616 < i) (h1 : i < 18446744073709551616) (h2 : -18446744073709551616 < j) (h3 : j < 18446744073709551616) : dMul (.int i) (.int j) h = .ok (.int (i * j)) h := dMul_bits i j h (bits_small h0 h1) (bits_small h2 h3) (by decide)
@[simp] theorem dPow_int : dPow (.int i) (.int j) h = if 0 ≤ j ∧ j ≤ 1000000 ∧ i.natAbs < 2 ^ 64 then .ok (.int (i ^ j.toNat)) h else .bad := nr rfl
@[simp] theorem dShl_int : dShl (.int i) (.int j) h = if 0 ≤ j ∧ j ≤ 1000000 ∧ i.natAbs < 2 ^ 64 then .ok (.int (i * 2 ^ j.toNat)) h else .bad := nr rfl
@[simp] theorem dLt_int : dLt (.int i) (.int j) h = .ok (.bl (decide (i < j))) h := nr rfl
@[simp] theorem dLe_int : dLe (.int i) (.int j) h = .ok (.bl (decide (i ≤ j))) h := nr rfl
@[simp] theorem dGt_int : dGt (.int i) (.int j) h = .ok (.bl (decide (j < i))) h := nr rfl
@[simp] theorem dGe_int : dGe (.int i) (.int j) h = .ok (.bl (decide (j ≤ i))) h := nr rfl
@[simp] theorem dNeg_int : dNeg (.int i) h = .ok (.int (-i)) h := nr rfl
@[simp] theorem eqD_int : eqD (.int i) (.int j) h = some (decide (i = j)) := by
  simp [eqD, scalD]
@[simp] theorem eqD_str : eqD (.str x) (.str y) h = some (decide (x = y)) := by
  simp [eqD, scalD]
@[simp] theorem eqD_bl : eqD (.bl a) (.bl b) h = some (decide (a = b)) := by
  simp [eqD, scalD]
@[simp] theorem eqD_non : eqD .non .non h = some true := by
  simp [eqD, scalD]
@[simp] theorem eqD_int_non : eqD (.int i) .non h = some false := by
  simp [eqD, scalD]
@[simp] theorem eqD_non_int : eqD .non (.int i) h = some false := by
  simp [eqD, scalD]
theorem dEq_of {a b : D} {k : Bool} {h : MH} (e : eqD a b h = some k) : dEq a b h = .ok (.bl k) h := by unfold dEq; rw [e]
theorem dNe_of {a b : D} {k : Bool} {h : MH} (e : eqD a b h = some k) : dNe a b h = .ok (.bl (!k)) h := by unfold dNe; rw [e]
@[simp] theorem dEq_int : dEq (.int i) (.int j) h = .ok (.bl (decide (i = j))) h := dEq_of (eqD_int i j h)
@[simp] theorem dNe_int : dNe (.int i) (.int j) h = .ok (.bl (!decide (i = j))) h := dNe_of (eqD_int i j h)
@[simp] theorem dEq_str : dEq (.str x) (.str y) h = .ok (.bl (decide (x = y))) h := dEq_of (eqD_str x y h)
@[simp] theorem dNe_str : dNe (.str x) (.str y) h = .ok (.bl (!decide (x = y))) h := dNe_of (eqD_str x y h)
@[simp] theorem dEq_bl : dEq (.bl a) (.bl b) h = .ok (.bl (decide (a = b))) h := dEq_of (eqD_bl a b h)
@[simp] theorem dIsN_ev (d : D) : dIsN d .non h = .ok (.bl (decide (d = .non))) h := nr rfl
@[simp] theorem dNotN_ev (d : D) : dNotN d .non h = .ok (.bl (!decide (d = .non))) h := nr rfl
@[simp] theorem dLen_str : dLen [.str x] h = if x.length ≤ 1000000 then .ok (.int x.length) h else .bad := nr rfl
@[simp] theorem dLen_tup : dLen [.tup l] h = .ok (.int l.length) h := nr rfl
theorem dLen_ref {i : Nat} {h : MH} {l : List D} (e : getL h i = some l) : dLen [.ref i] h = .ok (.int l.length) h := by simp [dLen, e]
@[simp] theorem dAbs_ev : dAbs [.int i] h = .ok (.int (if i < 0 then -i else i)) h := nr rfl
@[simp] theorem dMax_ev : dMax [.int i, .int j] h = .ok (.int (if j > i then j else i)) h := nr rfl
@[simp] theorem dMin_ev : dMin [.int i, .int j] h = .ok (.int (if j < i then j else i)) h := nr rfl
@[simp] theorem dInt_int : dInt [.int i] h = .ok (.int i) h := nr rfl
@[simp] theorem dInt_bl : dInt [.bl a] h = .ok (.int (if a then 1 else 0)) h := nr rfl
@[simp] theorem dSl_str (lo hi : Option Int) : dSl (.str x) lo hi h = if x.length ≤ 1000000 then .ok (.str (cutS x lo hi)) h else .bad := nr rfl
@[simp] theorem dSl_tup (lo hi : Option Int) : dSl (.tup l) lo hi h = .ok (.tup (cutD l lo hi)) h := nr rfl
theorem dSl_ref {i : Nat} {h : MH} {l : List D} (e : getL h i = some l) (lo hi : Option Int) : dSl (.ref i) lo hi h = .ok (.ref h.length) (h ++ [.lst (cutD l lo hi)]) := by simp [dSl, e]
theorem dIx_str {c : Nat} {x : Str} {i : Int} (hz : x.length ≤ 1000000) (e : atI x.cps.toList i = some c) : dIx (.str x) (.int i) h = .ok (.str ⟨#[c]⟩) h := by
  simp [dIx, hz, e]
theorem dIx_tup {d : D} {l : List D} {i : Int} (e : atI l i = some d) : dIx (.tup l) (.int i) h = .ok d h := by simp [dIx, seqOf, e]
theorem dIx_ref {d : D} {l : List D} {k : Nat} {i : Int} {h : MH} (hl : getL h k = some l) (e : atI l i = some d) : dIx (.ref k) (.int i) h = .ok d h := by simp [dIx, seqOf, hl, e]
theorem dIn_sign {c : Nat} {z : Str} : dIn (.str ⟨#[c]⟩) (.str z) h = .ok (.bl (decide (c ∈ z.cps.toList))) h := rfl
theorem dNotIn_sign {c : Nat} {z : Str} : dNotIn (.str ⟨#[c]⟩) (.str z) h = .ok (.bl (!decide (c ∈ z.cps.toList))) h := rfl
end
end Mi

namespace Mi
open PySem L2

/-! ### zip of two lists -/
def zipD (l m : List D) : List D := (l.zip m).map fun p => .tup [p.1, p.2]
def mZip (a b : ME) : MI := fun ρ h => (a ρ h).bind fun x h1 => (b ρ h1).bind fun y h2 => match x, y with
  | .ref i, .ref j => match getL h2 i, getL h2 j with
    | some l, some m => .ok (zipD l m, fun h' => decide (getL h' i = some l) && decide (getL h' j = some m)) h2
    | _, _ => .bad
  | _, _ => .bad
section
variable {X : Cx} {g : G} {W : WX} {a b : Expr} {ma mb : ME} {pos : Pos}
theorem zipD_length (l m : List D) : (zipD l m).length = min l.length m.length := by simp [zipD]
theorem zipD_get {l m : List D} {k : Nat} {d : D} (h : (zipD l m)[k]? = some d) : ∃ x y, l[k]? = some x ∧ m[k]? = some y ∧ d = .tup [x, y] := by
  simp only [zipD, List.getElem?_map, Option.map_eq_some_iff] at h
  obtain ⟨⟨x, y⟩, h1, h2⟩ := h
  rw [List.getElem?_zip_eq_some] at h1
  exact ⟨x, y, h1.1, h1.2, h2.symm⟩
theorem jr_zip {H0 : Hp} {μ0 : List Addr} {p q : Addr} {i j : Nat} {l m : List D} (hi : μ0[i]? = some p) (hj : μ0[j]? = some q) :
    JRr SV g H0 μ0 (Itz g.K p q) (zipD l m, fun h' => decide (getL h' i = some l) && decide (getL h' j = some m)) := fun k H μ h mm hr gd => by
  simp only [Bool.and_eq_true, decide_eq_true_eq] at gd
  obtain ⟨xs, hs, vs⟩ := hr.list (mm.ix hi) gd.1
  obtain ⟨ys, ht, vt⟩ := hr.list (mm.ix hj) gd.2
  refine ⟨fun lt => ?_, fun le => ?_⟩
  · obtain ⟨x, y, ex, ey, ed⟩ := zipD_get (List.getElem?_eq_getElem lt)
    obtain ⟨v, h1, h2⟩ := vs.get ex
    obtain ⟨w, h3, h4⟩ := vt.get ey
    refine ⟨⟨xs, ys, v, w, hs, ht, h1, h3⟩, fun z H' yl => ?_⟩
    obtain ⟨T, x', y', rfl, hT, rfl, e1, e2⟩ := yl
    have e1' := e1 xs hs
    have e2' := e2 ys ht
    rw [h1] at e1'
    rw [h3] at e2'
    cases e1'
    cases e2'
    have m2 : Mon g H (upd H T (.tup [v, w])) μ μ := (Saf.fresh hT).mon
    refine ⟨_, List.getElem?_eq_getElem lt, m2, hr.laid hT, T, [v, w], [x, y], rfl, ed, .inl (.inl upd_same), ?_⟩
    exact .cons (h2.mono m2) (.cons (h4.mono m2) .nil)
  · rw [zipD_length] at le
    refine ⟨xs, ys, hs, ht, ?_⟩
    rw [vs.length, vt.length]
    omega
theorem si_zip {p tpos : Pos} {elts : List Expr} {kk : Nat} (hm : X.mg "zip" = none) (ha : PE X a (tE g W ma)) (hb : PE X b (tE g W mb)) (hg : Gl X "zip" := by rfl) (hK : X.K = g.K := by rfl)
    (hs : starEach [a, b] X.env = (false, eval a X.env) :: starEach [b] X.env := by rfl) (hs2 : starEach [b] X.env = (false, eval b X.env) :: starEach [] X.env := by rfl) (hpl : (backTo pos (starEach [b] X.env)).any (·.1) = false := by rfl) :
    PI X (.Tuple elts kk tpos) (.Call (.Name "zip" p) [a, b] [] pos) (tIr SV g W (mZip ma mb)) :=
  pi_mono (pi_zip hg hm (pa_cons ha (pa_cons hb pa_nil hs2) hs) hs hpl) fun σ H R ⟨ρ, h, μ, sr, hr, bk⟩ => step (rel := VR) (rel' := JRr SV) (ma := ma) (Q' := R) sr hr bk fun x d h1 H1 μ1 m1 sr1 hr1 vx bk1 =>
    step (rel := VR) (rel' := JRr SV) (ma := mb) (Q' := R) sr1 hr1 bk1 fun y d2 h2 H2 μ2 m2 sr2 hr2 vy bk2 => by
      have vx := vx.mono m2
      rw [hK]
      cases vx with
      | @ref p i hi =>
        cases vy with
        | @ref q j hj =>
          simp only at bk2
          split at bk2
          · rename_i l m e1 e2
            obtain ⟨xs, hs, vs⟩ := hr2.list hi e1
            obtain ⟨ys, ht, vt⟩ := hr2.list hj e2
            exact ⟨p, q, xs, ys, rfl, hs, ht, bk2 _ H2 μ2 Mon.refl hr2 (jr_zip hi hj)⟩
          · exact bk2.elim
        | _ => exact bk2.elim
      | _ => exact bk2.elim
/-! ### xs[::-1], list(range(..)) -/
def dRevL (x : D) (h : MH) : R D := match x with
  | .ref i => match getL h i with
    | some l => .ok (.ref h.length) (h ++ [.lst l.reverse])
    | none => .bad
  | _ => .bad
def mRevL (a : ME) : ME := mUn dRevL a
theorem se_revL {k : Nat} {p1 p2 p3 : Pos} (ha : PE X a (tE g W ma)) (hK : X.K = g.K := by rfl) : PE X (.Subscript a (.Slice none none (some (.UnaryOp .USub (.Constant (.int 1) k p1) p2)) p3) pos) (tE g W (mRevL ma)) :=
  pe_mono (pe_revL ha) fun σ H Q ⟨ρ, h, μ, sr, hr, bk⟩ => step (rel := VR) (rel' := VR) (ma := ma) (Q' := Q) sr hr bk fun x d h1 H1 μ1 m1 sr1 hr1 vx bk1 => by
    rw [hK]
    cases vx with
    | @ref p i hi =>
      simp only [dRevL] at bk1
      split at bk1
      · rename_i l e
        obtain ⟨xs, hs, vs⟩ := hr1.list hi e
        exact ⟨p, xs, rfl, hs, fun r hr' => bk1.newL hr1 vs.reverse hr'⟩
      · exact bk1.elim
    | _ => exact bk1.elim
def lstRg (i j : Int) (h : MH) : R D := if 0 ≤ i ∧ j ≤ 1000000 ∧ i ≤ 1000000 ∧ 0 ≤ j then .ok (.ref h.length) (h ++ [.lst (rangeD i (j - i).toNat)]) else .bad
def mListRg1 (a : ME) : ME := mUn (fun x h => match x with
  | .int j => lstRg 0 j h
  | _ => .bad) a
def mListRg2 (a b : ME) : ME := mBin (fun x y h => match x, y with
  | .int i, .int j => lstRg i j h
  | _, _ => .bad) a b
theorem rg_vrs {H : Hp} {μ : List Addr} (i j : Int) : VRs g H μ (rgV i j) (rangeD i (j - i).toNat) := by
  unfold rgV rangeD
  generalize List.range (j - i).toNat = ks
  induction ks with
  | nil => exact .nil
  | cons k ks ih => exact .cons (.int _) ih
theorem rg_end {H : Hp} {μ : List Addr} {h : MH} {Q : VK} {W' : XK} {i j : Int} (hr : HR g H μ h) (bk : Bk (VR g) g H μ (lstRg i j h) Q W') : RgOk i j ∧ ∀ q, H q = none → Q (.ref q) (upd H q (.lst (rgV i j))) := by
  unfold lstRg at bk
  split at bk
  · rename_i c
    exact ⟨RgOk.of_le c.1 (by omega) (by omega) c.2.2.2, fun q hq => bk.newL hr (rg_vrs i j) hq⟩
  · exact bk.elim
theorem se_listRg1 {p p2 pos2 : Pos} (hl : X.mg "list" = none) (hm : X.mg "range" = none) (ha : PE X a (tE g W ma)) (hc : X.calm = true := by rfl) (hgl : Gl X "list" := by rfl) (hg : Gl X "range" := by rfl) (na : starEach [a] X.env = (false, eval a X.env) :: starEach [] X.env := by rfl)
    (hs : starEach [.Call (.Name "range" p2) [a] [] pos2] X.env = (false, eval (.Call (.Name "range" p2) [a] [] pos2) X.env) :: starEach [] X.env := by rfl) : PE X (.Call (.Name "list" p) [.Call (.Name "range" p2) [a] [] pos2] [] pos) (tE g W (mListRg1 ma)) :=
  pe_mono (pe_listRg hc hgl hl (prg_1 hg hm ha na) hs) fun σ H Q ⟨ρ, h, μ, sr, hr, bk⟩ => step (rel := VR) (rel' := VR) (ma := ma) (Q' := Q) sr hr bk fun x d h1 H1 μ1 m1 sr1 hr1 vx bk1 => by
    cases vx with
    | int j => exact ⟨j, rfl, rg_end hr1 bk1⟩
    | _ => exact bk1.elim
/-! ### t.index(x) -/
def fidx (z : Str) : List Str → Option Nat
  | [] => none
  | y :: r => if y = z then some 0 else (fidx z r).map (· + 1)
theorem fidx_some {z : Str} : ∀ {l : List Str} {j : Nat}, fidx z l = some j → l[j]? = some z ∧ ∀ m, m < j → l[m]? ≠ some z
  | [], _, h => by cases h
  | y :: r, j, h => by
    unfold fidx at h
    split at h
    · rename_i e
      cases h
      subst e
      exact ⟨rfl, fun m hm => absurd hm (Nat.not_lt_zero m)⟩
    · rename_i e
      obtain ⟨k, hk, rfl⟩ := Option.map_eq_some_iff.mp h
      obtain ⟨h1, h2⟩ := fidx_some hk
      refine ⟨by simpa using h1, fun m hm => ?_⟩
      cases m with
      | zero => simp only [List.getElem?_cons_zero]; intro q; exact e (Option.some.inj q)
      | succ m => simpa using h2 m (by omega)
def dTIdx (x y : D) (h : MH) : R D := match x, y with
  | .tup l, .str z => match allStr l with
    | some ys => match fidx z ys with
      | some j => .ok (.int j) h
      | none => .bad
    | none => .bad
  | _, _ => .bad
def mTIndex (a b : ME) : ME := fun ρ h => (a ρ h).bind fun x h1 => match x with
  | .tup l => (b ρ h1).bind fun y h2 => dTIdx (.tup l) y h2
  | _ => .bad
theorem Tk.obj {pins : List (Addr × Obj)} {σ : St} {H : Hp} {s : Shared} {p : Addr} {xs : List V} (I : Inv X pins σ H s) (h : Tk X.K H p xs) : s.TypeIs (.ref p) "tuple" ∧ ∃ ob, s.heap.get? p = some ob ∧ ob.dict = none := by
  rcases h with ⟨ob, hd, h⟩ | ⟨ob, ws, n, h1, h2, h3, _⟩
  · obtain ⟨e, _, ws, _, ob', e', c, _⟩ := (show ObjOk X.prog X.w H s.heap p (.frz ob (.tup xs)) from I.hok p _ h)
    rw [e] at e'
    cases e'
    exact ⟨⟨ob, e, c⟩, ob, e, hd⟩
  · exact ⟨⟨ob, I.kIn p ob h1, h2⟩, ob, I.kIn p ob h1, h3⟩
theorem pe_tidx {o e : Expr} {to : TE} {t : TA} {apos : Pos} {r : V → List V → Hp → VK → Prop} (hm : MtR X "tuple.index" r) (ho : PE X o to) (ha : PA X [e] t)
    (hbase : attributeBase o "index" X.env (eval o X.env) = eval o X.env := by rfl)
    (hfew : ((backTo pos (starEach [e] X.env)).all (fun x => !x.1) && (backToKw pos (keywordEach [] X.env)).all (fun x => x.1.isSome)
      && decide (([e] : List Expr).length + ([] : List Keyword).length + (if ([] : List Keyword).isEmpty then 0 else 1) < 30)) = true := by rfl)
    (hline : (apos.endLine == pos.line) = true := by rfl) (hs : starEach [e] X.env = (false, eval e X.env) :: starEach [] X.env := by rfl) (hplain : (backTo pos (starEach [] X.env)).any (·.1) = false := by rfl) :
    PE X (.Call (.Attribute o "index" apos) [e] [] pos) (fun σ H Q => to σ H fun x H1 => (∃ p xs, x = .ref p ∧ Tk X.K H1 p xs) ∧ t σ H1 fun xs H2 => r x xs H2 Q) := by
  refine ⟨fun pins s σ H Q I hh => ?_⟩
  refine wpAny_Call_method_late hbase hfew hline rfl (thn (ho.run pins s σ H _ I hh) fun v s1 ⟨x, H1, I1, r1, ⟨p, xs, ex, tk⟩, q1⟩ => ?_)
  subst ex
  cases r1
  obtain ⟨ty, ob, e1, e2⟩ := Tk.obj I1 tk
  refine ⟨"tuple", "tuple.index", PySem.F.plainAttrs_tuple, PySem.F.slot_tuple_index, PySem.F.type_tuple_index, ty, fun a ea => by cases ea; exact ⟨ob, e1, e2⟩, ?_⟩
  have hA := ha.run pos pins s1 σ H1 _ I1 q1
  rw [hs] at hA ⊢
  refine Calls.callWith_builtin (by show (false || (backTo pos (starEach [] X.env)).any (·.1)) = false; rw [hplain] <;> rfl) (Calls.evalArgs_plain ?_)
  exact thn hA fun us s2 ⟨vs, H2, I2, r2, q2⟩ => hm pins s2 σ H2 (.ref p) vs _ us Q I2 rfl r2 q2
theorem se_tindex {apos : Pos} (ha : PE X a (tE g W ma)) (hb : PE X b (tE g W mb)) (hK : X.K = g.K := by rfl)
    (hbase : attributeBase a "index" X.env (eval a X.env) = eval a X.env := by rfl)
    (hfew : ((backTo pos (starEach [b] X.env)).all (fun x => !x.1) && (backToKw pos (keywordEach [] X.env)).all (fun x => x.1.isSome)
      && decide (([b] : List Expr).length + ([] : List Keyword).length + (if ([] : List Keyword).isEmpty then 0 else 1) < 30)) = true := by rfl)
    (hline : (apos.endLine == pos.line) = true := by rfl) (hs : starEach [b] X.env = (false, eval b X.env) :: starEach [] X.env := by rfl) (hplain : (backTo pos (starEach [] X.env)).any (·.1) = false := by rfl) :
    PE X (.Call (.Attribute a "index" apos) [b] [] pos) (tE g W (mTIndex ma mb)) :=
  pe_mono (pe_tidx mt_tup_index ha (pa_cons hb pa_nil hs) hbase hfew hline hs hplain) fun σ H Q ⟨ρ, h, μ, sr, hr, bk⟩ => step (rel := VR) (rel' := VR) (ma := ma) (Q' := Q) sr hr bk fun x d h1 H1 μ1 m1 sr1 hr1 vx bk1 => by
    cases vx with
    | @tup p xs l hs vs =>
      refine ⟨⟨p, xs, rfl, by rw [hK]; exact hs⟩, ?_⟩
      refine step (rel := VR) (rel' := VR) (ma := mb) (Q' := Q) sr1 hr1 bk1 fun y d2 h2 H2 μ2 m2 sr2 hr2 vy bk2 => ?_
      cases vy with
      | str z =>
        simp only [dTIdx] at bk2
        split at bk2
        · rename_i ys e1
          split at bk2
          · rename_i j e2
            obtain ⟨h3, h4⟩ := fidx_some e2
            refine ⟨p, ys, z, j, rfl, rfl, ?_, h3, h4, bk2.val hr2 (.int _)⟩
            rw [← strs_of vs e1, hK]
            exact (m2.tups _ _ hs).sq
          · exact bk2.elim
        · exact bk2.elim
      | _ => exact bk2.elim
    | _ => exact bk1.elim
end
/-! ### sorted: ints, texts (fewer than 64) -/
abbrev ltC : List Nat → List Nat → Bool := PySem.Spec.ltCps
theorem ltC_irr : ∀ l : List Nat, ltC l l = false
  | [] => rfl
  | a :: r => by
    have := ltC_irr r
    simp [ltC, PySem.Spec.ltCps] at this ⊢
    exact this
theorem ltC_asym : ∀ l m : List Nat, ltC l m = false → ltC m l = false → l = m
  | [], [], _, _ => rfl
  | [], _ :: _, h, _ => by simp [ltC, PySem.Spec.ltCps] at h
  | _ :: _, [], _, h => by simp [ltC, PySem.Spec.ltCps] at h
  | a :: r, b :: t, h1, h2 => by
    simp only [ltC, PySem.Spec.ltCps, Bool.or_eq_false_iff, decide_eq_false_iff_not, Bool.and_eq_false_iff, beq_eq_false_iff_ne] at h1 h2
    have e : a = b := by omega
    subst e
    have h3 : ltC r t = false := h1.2.resolve_left (fun z => z rfl)
    have h4 : ltC t r = false := h2.2.resolve_left (fun z => z rfl)
    rw [ltC_asym r t h3 h4]
theorem ltC_trans : ∀ l m n : List Nat, ltC m l = false → ltC n m = false → ltC n l = false
  | [], [], [], _, _ => rfl
  | [], [], _ :: _, _, h => h
  | [], b :: t, [], _, h => by simp [ltC, PySem.Spec.ltCps] at h
  | [], b :: t, c :: u, h, _ => by simp [ltC, PySem.Spec.ltCps]
  | a :: r, [], _, h, _ => by simp [ltC, PySem.Spec.ltCps] at h
  | a :: r, b :: t, [], _, h => by simp [ltC, PySem.Spec.ltCps] at h
  | a :: r, b :: t, c :: u, h1, h2 => by
    simp only [ltC, PySem.Spec.ltCps, Bool.or_eq_false_iff, decide_eq_false_iff_not, Bool.and_eq_false_iff, beq_eq_false_iff_ne] at h1 h2 ⊢
    refine ⟨by omega, ?_⟩
    by_cases e : c = a
    · right
      have e1 : b = a := by omega
      have e2 : c = b := by omega
      exact ltC_trans r t u (h1.2.resolve_left (fun z => z e1)) (h2.2.resolve_left (fun z => z e2))
    · exact .inl e
theorem ltC_total : ∀ l m : List Nat, ltC l m = false ∨ ltC m l = false
  | [], [] => .inl rfl
  | [], _ :: _ => .inr rfl
  | _ :: _, [] => .inl rfl
  | a :: r, b :: t => by
    simp only [ltC, PySem.Spec.ltCps, Bool.or_eq_false_iff, decide_eq_false_iff_not, Bool.and_eq_false_iff, beq_eq_false_iff_ne]
    rcases Nat.lt_trichotomy a b with h | h | h
    · exact .inr ⟨by omega, .inl (by omega)⟩
    · subst h
      rcases ltC_total r t with q | q
      · exact .inl ⟨by omega, .inr q⟩
      · exact .inr ⟨by omega, .inr q⟩
    · exact .inl ⟨by omega, .inl (by omega)⟩
def leS (a b : Str) : Bool := !ltC b.cps.toList a.cps.toList
theorem leS_trans (a b c : Str) (h1 : leS a b = true) (h2 : leS b c = true) : leS a c = true := by
  simp only [leS, Bool.not_eq_true'] at h1 h2 ⊢
  exact ltC_trans _ _ _ h1 h2
theorem leS_total (a b : Str) : (leS a b || leS b a) = true := by
  rw [Bool.or_eq_true]
  simp only [leS, Bool.not_eq_true']
  rcases ltC_total b.cps.toList a.cps.toList with h | h
  · exact .inl h
  · exact .inr h
theorem leS_asym (a b : Str) (h1 : leS a b = true) (h2 : leS b a = true) : a = b := by
  simp only [leS, Bool.not_eq_true'] at h1 h2
  have e := ltC_asym _ _ h2 h1
  obtain ⟨⟨a⟩⟩ := a
  obtain ⟨⟨b⟩⟩ := b
  have : a = b := e
  rw [this]
def sortS (l : List Str) : List Str := l.mergeSort leS
def sortI (l : List Int) : List Int := l.mergeSort fun a b => decide (a ≤ b)
theorem rising_pair : ∀ (l : List Str) (p : Str), PyProof.Rows.risingS p l = true → (p :: l).Pairwise fun a b => leS a b = true
  | [], p, _ => List.pairwise_singleton _ _
  | x :: r, p, h => by
    simp only [PyProof.Rows.risingS, Bool.and_eq_true] at h
    have ih := rising_pair r x h.2
    have hx : leS p x = true := h.1
    refine List.pairwise_cons.mpr ⟨fun y hy => ?_, ih⟩
    rcases List.mem_cons.mp hy with rfl | hy
    · exact hx
    · exact leS_trans p x y hx ((List.pairwise_cons.mp ih).1 y hy)
theorem sortedS_pair : ∀ {l : List Str}, PyProof.Rows.sortedS l = true → l.Pairwise fun a b => leS a b = true
  | [], _ => List.Pairwise.nil
  | x :: r, h => rising_pair r x h
theorem sortS_is {ys xs : List Str} (hp : ys.Perm xs) (hs : PyProof.Rows.sortedS ys = true) : ys = sortS xs :=
  List.Perm.eq_of_pairwise (le := fun a b => leS a b = true) (fun a b _ _ h1 h2 => leS_asym a b h1 h2) (sortedS_pair hs) (List.pairwise_mergeSort leS_trans leS_total xs) (hp.trans (List.mergeSort_perm xs leS).symm)
theorem sortI_is {ys xs : List Int} (hp : ys.Perm xs) (hs : ys.Pairwise (· ≤ ·)) : ys = sortI xs :=
  List.Perm.eq_of_pairwise (le := (· ≤ ·)) (fun a b _ _ h1 h2 => Int.le_antisymm h1 h2) hs
    ((List.pairwise_mergeSort (le := fun a b => decide (a ≤ b)) (fun a b c h1 h2 => by simp only [decide_eq_true_eq] at *; omega) (fun a b => by simp only [Bool.or_eq_true, decide_eq_true_eq]; omega) xs).imp fun h => by simpa using h) (hp.trans (List.mergeSort_perm xs _).symm)
def allInt : List D → Option (List Int)
  | [] => some []
  | .int b :: r => (allInt r).map (b :: ·)
  | _ => none
theorem ints_of {g : G} {H : Hp} {μ : List Addr} : ∀ {xs : List V} {ds : List D} {bs : List Int}, VRs g H μ xs ds → allInt ds = some bs → xs = bs.map V.int
  | _, _, _, .nil, e => by cases e; rfl
  | _, _, _, .cons (d := d) a b, e => by
    cases a with
    | int k =>
      simp only [allInt, Option.map_eq_some_iff] at e
      obtain ⟨r, e, rfl⟩ := e
      rw [ints_of b e]; rfl
    | _ => cases e
theorem vrs_strs {g : G} {H : Hp} {μ : List Addr} : ∀ ns : List Str, VRs g H μ (ns.map V.str) (ns.map D.str)
  | [] => .nil
  | n :: ns => .cons (.str n) (vrs_strs ns)
def dSorted : List D → MH → R D
  | [.ref i], h => match getL h i with
    | some l => if l.length < 64 then match allStr l with
      | some ys => .ok (.ref h.length) (h ++ [.lst ((sortS ys).map .str)])
      | none => match allInt l with
        | some ys => .ok (.ref h.length) (h ++ [.lst ((sortI ys).map .int)])
        | none => .bad else .bad
    | none => .bad
  | _, _ => .bad
section
variable {X : Cx} {g : G}
theorem callR_or {f : Value} {r r' : List V → Hp → VK → Prop} (h : CallR X f r) (h' : CallR X f r') : CallR X f (fun xs H Q => r xs H Q ∨ r' xs H Q) := by
  intro pins s σ H xs us Q I rv q
  rcases q with q | q
  · exact h pins s σ H xs us Q I rv q
  · exact h' pins s σ H xs us Q I rv q
theorem allStr_len : ∀ {ds : List D} {bs : List Str}, allStr ds = some bs → ds.length = bs.length
  | [], _, e => by cases e; rfl
  | .str b :: r, _, e => by
    simp only [allStr, Option.map_eq_some_iff] at e
    obtain ⟨t, e, rfl⟩ := e
    rw [List.length_cons, List.length_cons, allStr_len e]
  | .non :: _, _, e => by cases e
  | .bl _ :: _, _, e => by cases e
  | .int _ :: _, _, e => by cases e
  | .tup _ :: _, _, e => by cases e
  | .ref _ :: _, _, e => by cases e
theorem allInt_len : ∀ {ds : List D} {bs : List Int}, allInt ds = some bs → ds.length = bs.length
  | [], _, e => by cases e; rfl
  | .int b :: r, _, e => by
    simp only [allInt, Option.map_eq_some_iff] at e
    obtain ⟨t, e, rfl⟩ := e
    rw [List.length_cons, List.length_cons, allInt_len e]
  | .non :: _, _, e => by cases e
  | .bl _ :: _, _, e => by cases e
  | .str _ :: _, _, e => by cases e
  | .tup _ :: _, _, e => by cases e
  | .ref _ :: _, _, e => by cases e
theorem op_sorted : CallR X (.builtin "sorted") (fun xs H Q => rSortedS X.K xs H Q ∨ rSorted X.K xs H Q) := callR_or cr_sortedS cr_sorted
theorem sn_sorted : SN g (fun xs H Q => rSortedS g.K xs H Q ∨ rSorted g.K xs H Q) dSorted := sn1 (fun H μ h x a Q W hr va bk => by
  cases va with
  | @ref p i hi =>
    simp only [dSorted] at bk
    split at bk
    · rename_i l q
      obtain ⟨xs, hs, vs⟩ := hr.list hi q
      split at bk
      · rename_i h64
        split at bk
        · rename_i ys e
          have ex := strs_of vs e
          subst ex
          refine .inl ⟨p, ys, rfl, hs, by rw [← allStr_len e]; exact h64, fun zs r h1 h2 h3 => ?_⟩
          rw [sortS_is h1 h2]
          exact bk.newL hr (vrs_strs _) h3
        · split at bk
          · rename_i ys e
            have ex := ints_of vs e
            subst ex
            refine .inr ⟨p, ys, rfl, hs, by rw [← allInt_len e]; exact h64, fun zs r h1 h2 h3 => ?_⟩
            rw [sortI_is h1 h2]
            exact bk.newL hr (vrs_ints _) h3
          · exact bk.elim
      · exact bk.elim
    · exact bk.elim
  | _ => exact bk.elim) (fun _ => rfl) (fun a b l h => by simp [dSorted])
end
end Mi

/-! A calculus for the mirror: what must hold ahead of a part so that a thing holds behind it. -/
namespace Mi
open PySem L2
abbrev XE := Str → List (Str × D) → MH → Prop
@[irreducible] def Sat {α : Type} (r : R α) (Q : α → MH → Prop) (E : XE) : Prop := match r with
  | .ok d h => Q d h
  | .exc x fs h => E x fs h
  | .bad => False
abbrev SP := Slots → MH → Prop
abbrev SX := Str → List (Str × D) → Slots → MH → Prop
@[irreducible] def OS (o : Out) (N : SP) (T : D → MH → Prop) (B C : SP) (E : SX) : Prop := match o with
  | .nx ρ h => N ρ h
  | .rt d h => T d h
  | .bk ρ h => B ρ h
  | .ct ρ h => C ρ h
  | .exc x fs ρ h => E x fs ρ h
  | .bad => False
abbrev noX : XE := fun _ _ _ => False
abbrev noS : SP := fun _ _ => False
section
variable {α : Type} {Q : α → MH → Prop} {E : XE}
theorem Sat_ok (d : α) (h : MH) : Sat (.ok d h) Q E = Q d h := by unfold Sat; rfl
theorem Sat_exc (x : Str) (fs : List (Str × D)) (h : MH) : Sat (.exc x fs h : R α) Q E = E x fs h := by unfold Sat; rfl
theorem Sat_bad : Sat (.bad : R α) Q E = False := by unfold Sat; rfl
variable {N : SP} {T : D → MH → Prop} {B C : SP} {Es : SX}
theorem OS_nx (ρ : Slots) (h : MH) : OS (.nx ρ h) N T B C Es = N ρ h := by unfold OS; rfl
theorem OS_rt (d : D) (h : MH) : OS (.rt d h) N T B C Es = T d h := by unfold OS; rfl
theorem OS_bk (ρ : Slots) (h : MH) : OS (.bk ρ h) N T B C Es = B ρ h := by unfold OS; rfl
theorem OS_ct (ρ : Slots) (h : MH) : OS (.ct ρ h) N T B C Es = C ρ h := by unfold OS; rfl
theorem OS_exc (x : Str) (fs : List (Str × D)) (ρ : Slots) (h : MH) : OS (.exc x fs ρ h) N T B C Es = Es x fs ρ h := by unfold OS; rfl
theorem OS_bad : OS .bad N T B C Es = False := by unfold OS; rfl
end
theorem Sat.monoE {α : Type} {r : R α} {Q Q' : α → MH → Prop} {E E' : XE} (s : Sat r Q E) (k : ∀ d h, Q d h → Q' d h) (k' : ∀ x fs h, E x fs h → E' x fs h) : Sat r Q' E' := by
  cases r with
  | ok d h => rw [Sat_ok] at s ⊢; exact k d h s
  | exc x fs h => rw [Sat_exc] at s ⊢; exact k' x fs h s
  | _ => rw [Sat_bad] at s; exact s.elim
theorem Sat.mono {α : Type} {r : R α} {Q Q' : α → MH → Prop} {E : XE} (s : Sat r Q noX) (k : ∀ d h, Q d h → Q' d h) : Sat r Q' E := s.monoE k fun _ _ _ z => z.elim
theorem Sat.get {α : Type} {r : R α} {Q : α → MH → Prop} (s : Sat r Q noX) : ∃ d h, r = .ok d h ∧ Q d h := by
  cases r with
  | ok d h => rw [Sat_ok] at s; exact ⟨d, h, rfl, s⟩
  | exc x fs h => rw [Sat_exc] at s; exact s.elim
  | _ => rw [Sat_bad] at s; exact s.elim
theorem Sat.bnd {α β : Type} {r : R α} {f : α → MH → R β} {Q : β → MH → Prop} {E : XE} (s : Sat r (fun x h => Sat (f x h) Q E) E) : Sat (r.bind f) Q E := by
  cases r with
  | ok d h => rw [Sat_ok] at s; exact s
  | exc x fs h => rw [Sat_exc] at s; show Sat (.exc x fs h) Q E; rw [Sat_exc]; exact s
  | _ => rw [Sat_bad] at s; exact s.elim
theorem Sat.ot {α : Type} {r : R α} {ρ : Slots} {f : α → MH → Out} {N : SP} {T : D → MH → Prop} {B C : SP} {E : SX} (s : Sat r (fun x h => OS (f x h) N T B C E) (fun x fs h => E x fs ρ h)) : OS (r.out ρ f) N T B C E := by
  cases r with
  | ok d h => rw [Sat_ok] at s; exact s
  | exc x fs h => rw [Sat_exc] at s; show OS (.exc x fs ρ h) N T B C E; rw [OS_exc]; exact s
  | _ => rw [Sat_bad] at s; exact s.elim
theorem OS.mono {o : Out} {N N' : SP} {T T' : D → MH → Prop} {B B' C C' : SP} {E E' : SX} (s : OS o N T B C E) (kn : ∀ ρ h, N ρ h → N' ρ h) (kt : ∀ d h, T d h → T' d h) (kb : ∀ ρ h, B ρ h → B' ρ h) (kc : ∀ ρ h, C ρ h → C' ρ h) (ke : ∀ x fs ρ h, E x fs ρ h → E' x fs ρ h) : OS o N' T' B' C' E' := by
  cases o with
  | nx ρ h => rw [OS_nx] at s ⊢; exact kn ρ h s
  | rt d h => rw [OS_rt] at s ⊢; exact kt d h s
  | bk ρ h => rw [OS_bk] at s ⊢; exact kb ρ h s
  | ct ρ h => rw [OS_ct] at s ⊢; exact kc ρ h s
  | exc x fs ρ h => rw [OS_exc] at s ⊢; exact ke x fs ρ h s
  | bad => rw [OS_bad] at s; exact s.elim
theorem w_ok {α : Type} {Q : α → MH → Prop} {E : XE} {h : MH} {d : α} (q : Q d h) : Sat (.ok d h) Q E := by rw [Sat_ok]; exact q
theorem w_eq {α : Type} {Q : α → MH → Prop} {E : XE} {x : R α} {d : α} {h' : MH} (e : x = .ok d h') (q : Q d h') : Sat x Q E := by rw [e]; exact w_ok q
theorem w_exc {α : Type} {Q : α → MH → Prop} {E : XE} {x : R α} {n : Str} {fs : List (Str × D)} {h' : MH} (e : x = .exc n fs h') (q : E n fs h') : Sat x Q E := by rw [e, Sat_exc]; exact q
theorem w_nx {N : SP} {T : D → MH → Prop} {B C : SP} {E : SX} {ρ : Slots} {h : MH} (q : N ρ h) : OS (.nx ρ h) N T B C E := by rw [OS_nx]; exact q
theorem w_rt {N : SP} {T : D → MH → Prop} {B C : SP} {E : SX} {d : D} {h : MH} (q : T d h) : OS (.rt d h) N T B C E := by rw [OS_rt]; exact q
theorem w_bk {N : SP} {T : D → MH → Prop} {B C : SP} {E : SX} {ρ : Slots} {h : MH} (q : B ρ h) : OS (.bk ρ h) N T B C E := by rw [OS_bk]; exact q
theorem w_ct {N : SP} {T : D → MH → Prop} {B C : SP} {E : SX} {ρ : Slots} {h : MH} (q : C ρ h) : OS (.ct ρ h) N T B C E := by rw [OS_ct]; exact q
def Br (p A B : Prop) : Prop := (p → A) ∧ (¬p → B)
theorem br {p A B : Prop} (a : p → A) (b : ¬p → B) : Br p A B := ⟨a, b⟩
theorem br_t {p A B : Prop} (hp : p) (a : A) : Br p A B := ⟨fun _ => a, fun n => absurd hp n⟩
theorem br_f {p A B : Prop} (hp : ¬p) (b : B) : Br p A B := ⟨fun n => absurd n hp, fun _ => b⟩
theorem br_d {p : Prop} [Decidable p] {A B : Prop} (a : p → A) (b : ¬p → B) : Br (decide p = true) A B := ⟨fun n => a (of_decide_eq_true n), fun n => b (of_decide_eq_false (by simpa using n))⟩
theorem br_n {b : Bool} {A B : Prop} (a : Br (b = true) B A) : Br ((!b) = true) A B := ⟨fun n => a.2 (by simp at n; simp [n]), fun n => a.1 (by simpa using n)⟩
theorem br_dt {p : Prop} [Decidable p] {A B : Prop} (hp : p) (a : A) : Br (decide p = true) A B := br_t (decide_eq_true hp) a
theorem br_df {p : Prop} [Decidable p] {A B : Prop} (hp : ¬p) (a : B) : Br (decide p = true) A B := br_f (by simp [hp]) a
theorem br_tt {A B : Prop} (a : A) : Br (true = true) A B := br_t rfl a
theorem br_ff {A B : Prop} (b : B) : Br (false = true) A B := br_f (by decide) b
section
variable {α : Type} {Q : D → MH → Prop} {QA : List D → MH → Prop} {QB : Bool → MH → Prop} {QP : Option Int → MH → Prop} {QI : List D × (MH → Bool) → MH → Prop} {E : XE} {ρ : Slots} {h : MH} {a b c e : ME} {r : MA} {ta tb : MT} {lo hi : MP}
theorem w_var {i : Nat} {d : D} (e : ρ[i]? = some (some d)) (q : Q d h) : Sat (mVar i ρ h) Q E := by
  unfold mVar
  rw [e]
  exact w_ok q
theorem w_c {d : D} (q : Q d h) : Sat (mC d ρ h) Q E := w_ok q
theorem w_bin {f : D → D → MH → R D} (q : Sat (a ρ h) (fun x h1 => Sat (b ρ h1) (fun y h2 => Sat (f x y h2) Q E) E) E) : Sat (mBin f a b ρ h) Q E := Sat.bnd (q.monoE (fun _ _ z => Sat.bnd z) fun _ _ _ z => z)
theorem w_un {f : D → MH → R D} (q : Sat (a ρ h) (fun x h1 => Sat (f x h1) Q E) E) : Sat (mUn f a ρ h) Q E := Sat.bnd q
theorem w_nil (q : QA [] h) : Sat (mNil ρ h) QA E := w_ok q
theorem w_cons (q : Sat (a ρ h) (fun x h1 => Sat (r ρ h1) (fun xs h2 => QA (x :: xs) h2) E) E) : Sat (mCons a r ρ h) QA E := Sat.bnd (q.monoE (fun _ _ z => Sat.bnd (z.monoE (fun _ _ z => w_ok z) fun _ _ _ z => z)) fun _ _ _ z => z)
def toTup (xs : List D) (h1 : MH) : R D := if xs.length ≤ 1000000 then .ok (.tup xs) h1 else .bad
def toLst (xs : List D) (h1 : MH) : R D := if xs.length ≤ 1000000 then .ok (.ref h1.length) (h1 ++ [.lst xs]) else .bad
theorem w_tup (q : Sat (r ρ h) (fun xs h1 => Sat (toTup xs h1) Q E) E) : Sat (mTup r ρ h) Q E := Sat.bnd q
theorem w_lst (q : Sat (r ρ h) (fun xs h1 => Sat (toLst xs h1) Q E) E) : Sat (mLst r ρ h) Q E := Sat.bnd q
theorem w_toTup {xs : List D} (l : xs.length ≤ 1000000) (q : Q (.tup xs) h) : Sat (toTup xs h) Q E := by unfold toTup; rw [if_pos l]; exact w_ok q
theorem w_toLst {xs : List D} (l : xs.length ≤ 1000000) (q : Q (.ref h.length) (h ++ [.lst xs])) : Sat (toLst xs h) Q E := by unfold toLst; rw [if_pos l]; exact w_ok q
theorem w_call {F : List D → MH → R D} (q : Sat (r ρ h) (fun xs h1 => Sat (F xs h1) Q E) E) : Sat (mCall F r ρ h) Q E := Sat.bnd q
def unB (x : D) (h1 : MH) : R Bool := match x with
  | .bl b => .ok b h1
  | _ => .bad
theorem w_B (q : Sat (a ρ h) (fun x h1 => Sat (unB x h1) QB E) E) : Sat (mB a ρ h) QB E := by
  refine Sat.bnd (q.monoE (fun x _ z => ?_) fun _ _ _ z => z)
  cases x <;> exact z
theorem w_unB {b : Bool} (q : QB b h) : Sat (unB (.bl b) h) QB E := w_ok q
theorem br_if {p : Prop} [Decidable p] {α : Type} {x y : R α} {Q : α → MH → Prop} (q : Br p (Sat x Q E) (Sat y Q E)) : Sat (if p then x else y) Q E := by
  split
  · rename_i hp; exact q.1 hp
  · rename_i hp; exact q.2 hp
theorem w_and (q : Sat (ta ρ h) (fun x h1 => Br (x = true) (Sat (tb ρ h1) QB E) (QB false h1)) E) : Sat (mAnd ta tb ρ h) QB E := Sat.bnd (q.monoE (fun _ _ z => br_if ⟨z.1, fun n => w_ok (z.2 n)⟩) fun _ _ _ z => z)
theorem w_or (q : Sat (ta ρ h) (fun x h1 => Br (x = true) (QB true h1) (Sat (tb ρ h1) QB E)) E) : Sat (mOr ta tb ρ h) QB E := Sat.bnd (q.monoE (fun _ _ z => br_if ⟨fun n => w_ok (z.1 n), z.2⟩) fun _ _ _ z => z)
theorem w_not (q : Sat (ta ρ h) (fun x h1 => QB (!x) h1) E) : Sat (mNot ta ρ h) QB E := Sat.bnd (q.monoE (fun _ _ z => w_ok z) fun _ _ _ z => z)
def andK (b : ME) (ρ : Slots) (x : D) (h1 : MH) : R D := match x with
  | .bl true => b ρ h1
  | .bl false => .ok (.bl false) h1
  | _ => .bad
def orK (b : ME) (ρ : Slots) (x : D) (h1 : MH) : R D := match x with
  | .bl false => b ρ h1
  | .bl true => .ok (.bl true) h1
  | _ => .bad
def notK (x : D) (h1 : MH) : R D := match x with
  | .bl b => .ok (.bl (!b)) h1
  | _ => .bad
theorem w_andV (q : Sat (a ρ h) (fun x h1 => Sat (andK b ρ x h1) Q E) E) : Sat (mAndV a b ρ h) Q E := Sat.bnd q
theorem w_orV (q : Sat (a ρ h) (fun x h1 => Sat (orK b ρ x h1) Q E) E) : Sat (mOrV a b ρ h) Q E := Sat.bnd q
theorem w_notV (q : Sat (a ρ h) (fun x h1 => Sat (notK x h1) Q E) E) : Sat (mNotV a ρ h) Q E := Sat.bnd q
theorem w_andK {k : Bool} (q : Br (k = true) (Sat (b ρ h) Q E) (Q (.bl false) h)) : Sat (andK b ρ (.bl k) h) Q E := by
  cases k
  · exact w_ok (q.2 (by decide))
  · exact q.1 rfl
theorem w_orK {k : Bool} (q : Br (k = true) (Q (.bl true) h) (Sat (b ρ h) Q E)) : Sat (orK b ρ (.bl k) h) Q E := by
  cases k
  · exact q.2 (by decide)
  · exact w_ok (q.1 rfl)
theorem w_notK {k : Bool} (q : Q (.bl (!k)) h) : Sat (notK (.bl k) h) Q E := w_ok q
theorem w_ifE (q : Sat (ta ρ h) (fun x h1 => Br (x = true) (Sat (a ρ h1) Q E) (Sat (b ρ h1) Q E)) E) : Sat (mIfE ta a b ρ h) Q E := Sat.bnd (q.monoE (fun _ _ z => br_if z) fun _ _ _ z => z)
theorem w_sl (q : Sat (a ρ h) (fun x h1 => Sat (lo ρ h1) (fun l h2 => Sat (hi ρ h2) (fun u h3 => Sat (dSl x l u h3) Q E) E) E) E) : Sat (mSl a lo hi ρ h) Q E :=
  Sat.bnd (q.monoE (fun _ _ z => Sat.bnd (z.monoE (fun _ _ z => Sat.bnd z) fun _ _ _ z => z)) fun _ _ _ z => z)
theorem w_no (q : QP none h) : Sat (mNo ρ h) QP E := w_ok q
def unI (x : D) (h1 : MH) : R (Option Int) := match x with
  | .int i => .ok (some i) h1
  | _ => .bad
theorem w_some (q : Sat (a ρ h) (fun x h1 => Sat (unI x h1) QP E) E) : Sat (mSome a ρ h) QP E := by
  refine Sat.bnd (q.monoE (fun x _ z => ?_) fun _ _ _ z => z)
  cases x <;> exact z
theorem w_unI {i : Int} (q : QP (some i) h) : Sat (unI (.int i) h) QP E := w_ok q
theorem w_meth {T : D → MH → Bool} {f : D → List D → MH → R D} (q : Sat (a ρ h) (fun x h1 => T x h1 = true ∧ Sat (r ρ h1) (fun xs h2 => Sat (f x xs h2) Q E) E) E) : Sat (mMeth T f a r ρ h) Q E :=
  Sat.bnd (q.monoE (fun _ _ z => by
    rw [if_pos z.1]
    exact Sat.bnd z.2) fun _ _ _ z => z)
theorem w_isi {T : String} (q : Sat (a ρ h) (fun x h1 => Sat (isi1 T (.ok x h1)) Q E) E) : Sat (mIsi T a ρ h) Q E := Sat.bnd q
def iterK (x : D) (h1 : MH) : R (List D × (MH → Bool)) := iter1 (.ok x h1)
theorem w_iter (q : Sat (a ρ h) (fun x h1 => Sat (iter1 (.ok x h1)) QI E) E) : Sat (mIter a ρ h) QI E := Sat.bnd q
theorem w_range1 (q : Sat (a ρ h) (fun x h1 => Sat (dR1 rangeD x h1) QI E) E) : Sat (mRange1 a ρ h) QI E := Sat.bnd q
theorem w_rev1 (q : Sat (a ρ h) (fun x h1 => Sat (dR1 revRangeD x h1) QI E) E) : Sat (mRev1 a ρ h) QI E := Sat.bnd q
theorem w_range2 (q : Sat (a ρ h) (fun x h1 => Sat (b ρ h1) (fun y h2 => Sat (dR2 rangeD x y h2) QI E) E) E) : Sat (mRange2 a b ρ h) QI E := Sat.bnd (q.monoE (fun _ _ z => Sat.bnd z) fun _ _ _ z => z)
theorem w_rev2 (q : Sat (a ρ h) (fun x h1 => Sat (b ρ h1) (fun y h2 => Sat (dR2 revRangeD x y h2) QI E) E) E) : Sat (mRev2 a b ρ h) QI E := Sat.bnd (q.monoE (fun _ _ z => Sat.bnd z) fun _ _ _ z => z)
theorem lim_in {j : Int} (h0 : -1000000000000000000 ≤ j) (h1 : j ≤ 1000000000000000000) : lim62 j = true := by unfold lim62; simp; omega
theorem w_dR1 {f : Int → Nat → List D} {j : Int} (l : -1000000000000000000 ≤ j ∧ j ≤ 1000000000000000000) (q : QI (f 0 j.toNat, yes) h) : Sat (dR1 f (.int j) h) QI E := by
  unfold dR1; simp only [lim_in l.1 l.2, if_true]; exact w_ok q
theorem w_dR2 {f : Int → Nat → List D} {i j : Int} (l : (-1000000000000000000 ≤ i ∧ i ≤ 1000000000000000000) ∧ -1000000000000000000 ≤ j ∧ j ≤ 1000000000000000000) (q : QI (f i (j - i).toNat, yes) h) : Sat (dR2 f (.int i) (.int j) h) QI E := by
  unfold dR2; simp only [lim_in l.1.1 l.1.2, lim_in l.2.1 l.2.2, true_and, if_true]; exact w_ok q
def zipK (x y : D) (h2 : MH) : R (List D × (MH → Bool)) := match x, y with
  | .ref i, .ref j => match getL h2 i, getL h2 j with
    | some l, some m => .ok (zipD l m, fun h' => decide (getL h' i = some l) && decide (getL h' j = some m)) h2
    | _, _ => .bad
  | _, _ => .bad
theorem w_zip (q : Sat (a ρ h) (fun x h1 => Sat (b ρ h1) (fun y h2 => Sat (zipK x y h2) QI E) E) E) : Sat (mZip a b ρ h) QI E := Sat.bnd (q.monoE (fun _ _ z => Sat.bnd z) fun _ _ _ z => z)
theorem w_zipK {i j : Nat} {l m : List D} (hi : getL h i = some l) (hj : getL h j = some m) (q : QI (zipD l m, fun h' => decide (getL h' i = some l) && decide (getL h' j = some m)) h) : Sat (zipK (.ref i) (.ref j) h) QI E := by
  unfold zipK
  simp only [hi, hj]
  exact w_ok q
theorem w_lc {it : MI} {tg : MG} {vs : List Nat} (q : Sat (it ρ h) (fun a h1 => Sat (lcGo a.2 tg ta e h1.length (wipeD ρ vs) a.1 (h1 ++ [.lst []])) Q E) E) : Sat (mLc it tg ta e vs ρ h) Q E := Sat.bnd q
theorem w_revL (q : Sat (a ρ h) (fun x h1 => Sat (dRevL x h1) Q E) E) : Sat (mRevL a ρ h) Q E := Sat.bnd q
theorem w_dRevL {i : Nat} {l : List D} (hl : getL h i = some l) (q : Q (.ref h.length) (h ++ [.lst l.reverse])) : Sat (dRevL (.ref i) h) Q E := by
  simp only [dRevL, hl]; exact w_ok q
def lrK (x : D) (h : MH) : R D := match x with
  | .int j => lstRg 0 j h
  | _ => .bad
theorem w_listRg1 (q : Sat (a ρ h) (fun x h1 => Sat (lrK x h1) Q E) E) : Sat (mListRg1 a ρ h) Q E := Sat.bnd q
theorem w_lrK {j : Int} (l : 0 ≤ j ∧ j ≤ 1000000) (q : Q (.ref h.length) (h ++ [.lst (rangeD 0 j.toNat)])) : Sat (lrK (.int j) h) Q E := by
  simp only [lrK, lstRg]
  rw [if_pos (by omega), Int.sub_zero]
  exact w_ok q
theorem w_tindex (q : Sat (a ρ h) (fun x h1 => ∃ l, x = .tup l ∧ Sat (b ρ h1) (fun y h2 => Sat (dTIdx x y h2) Q E) E) E) : Sat (mTIndex a b ρ h) Q E := Sat.bnd (q.monoE (fun _ _ z => by
  obtain ⟨l, rfl, z⟩ := z
  exact Sat.bnd z) fun _ _ _ z => z)
theorem w_dict0 (q : Q (.ref h.length) (h ++ [.dK []])) : Sat (mDict0 ρ h) Q E := w_ok q
def chK (f' : D → D → MH → R D) (c : ME) (ρ : Slots) (y z : D) (h3 : MH) : R D := match z with
  | .bl true => (c ρ h3).bind fun w h4 => f' y w h4
  | .bl false => .ok (.bl false) h3
  | _ => .bad
theorem w_chain {f f' : D → D → MH → R D} (q : Sat (a ρ h) (fun x h1 => Sat (b ρ h1) (fun y h2 => Sat (f x y h2) (fun z h3 => Sat (chK f' c ρ y z h3) Q E) E) E) E) : Sat (mChain f f' a b c ρ h) Q E :=
  Sat.bnd (q.monoE (fun _ _ z => Sat.bnd (z.monoE (fun _ _ z => Sat.bnd z) fun _ _ _ z => z)) fun _ _ _ z => z)
theorem w_chK {f' : D → D → MH → R D} {y : D} {k : Bool} (q : Br (k = true) (Sat (c ρ h) (fun w h4 => Sat (f' y w h4) Q E) E) (Q (.bl false) h)) : Sat (chK f' c ρ y (.bl k) h) Q E := by
  cases k
  · exact w_ok (q.2 (by decide))
  · exact Sat.bnd (q.1 rfl)
end
section
variable {N : SP} {T : D → MH → Prop} {B C : SP} {E : SX} {ρ : Slots} {h : MH} {a b c e : ME} {r : MA} {ta tb : MT} {sa sb : MS}
theorem w_seq (q : OS (sa ρ h) (fun ρ' h' => OS (sb ρ' h') N T B C E) T B C E) : OS (mSeq sa sb ρ h) N T B C E := by
  unfold mSeq
  cases e : sa ρ h with
  | nx ρ' h' => rw [e, OS_nx] at q; exact q
  | rt d h' => rw [e, OS_rt] at q; exact w_rt q
  | bk ρ' h' => rw [e, OS_bk] at q; exact w_bk q
  | ct ρ' h' => rw [e, OS_ct] at q; exact w_ct q
  | exc x fs ρ' h' => rw [e, OS_exc] at q; simp only [OS_exc]; exact q
  | bad => rw [e, OS_bad] at q; exact q.elim
theorem w_skip (q : N ρ h) : OS (mSkip ρ h) N T B C E := w_nx q
theorem w_brk (q : B ρ h) : OS (mBreak ρ h) N T B C E := w_bk q
theorem w_cont (q : C ρ h) : OS (mCont ρ h) N T B C E := w_ct q
theorem w_retN (q : T .non h) : OS (mRetN ρ h) N T B C E := w_rt q
theorem w_drop (q : Sat (e ρ h) (fun _ h' => N ρ h') fun x fs h => E x fs ρ h) : OS (mDrop e ρ h) N T B C E := Sat.ot (q.monoE (fun _ _ z => w_nx z) fun _ _ _ z => z)
theorem w_ret (q : Sat (e ρ h) T fun x fs h => E x fs ρ h) : OS (mRet e ρ h) N T B C E := Sat.ot (q.monoE (fun _ _ z => w_rt z) fun _ _ _ z => z)
theorem w_if (q : Sat (ta ρ h) (fun x h1 => Br (x = true) (OS (sa ρ h1) N T B C E) (OS (sb ρ h1) N T B C E)) fun x fs h => E x fs ρ h) : OS (mIf ta sa sb ρ h) N T B C E := Sat.ot (q.monoE (fun _ _ z => by
  split
  · rename_i hp; exact z.1 hp
  · rename_i hp; exact z.2 hp) fun _ _ _ z => z)
theorem w_asg {i : Nat} (q : Sat (e ρ h) (fun d h' => N (ρ.set i (some d)) h') fun x fs h => E x fs ρ h) : OS (mAsg i e ρ h) N T B C E := Sat.ot (q.monoE (fun _ _ z => w_nx z) fun _ _ _ z => z)
theorem w_asgT {m : MG} (q : Sat (e ρ h) (fun d h' => ∃ ρ', m d ρ = some ρ' ∧ N ρ' h') fun x fs h => E x fs ρ h) : OS (mAsgT m e ρ h) N T B C E := Sat.ot (q.monoE (fun _ _ z => by
  obtain ⟨ρ', e1, z⟩ := z
  rw [e1]
  exact w_nx z) fun _ _ _ z => z)
theorem w_setIx (q : Sat (e ρ h) (fun d h1 => Sat (a ρ h1) (fun x h2 => Sat (b ρ h2) (fun y h3 => Sat (dSet x y d h3) (fun _ h4 => N ρ h4) fun x fs h => E x fs ρ h) fun x fs h => E x fs ρ h) fun x fs h => E x fs ρ h) fun x fs h => E x fs ρ h) : OS (mSetIx a b e ρ h) N T B C E :=
  Sat.ot (q.monoE (fun _ _ z => Sat.ot (z.monoE (fun _ _ z => Sat.ot (z.monoE (fun _ _ z => Sat.ot (z.monoE (fun _ _ z => w_nx z) fun _ _ _ z => z)) fun _ _ _ z => z)) fun _ _ _ z => z)) fun _ _ _ z => z)
theorem w_for {it : MI} {tg : MG} (q : Sat (it ρ h) (fun x h1 => OS (forGo x.2 tg sa x.1 ρ h1) N T B C E) fun x fs h => E x fs ρ h) : OS (mFor it tg sa ρ h) N T B C E := Sat.ot q
theorem w_fun {n M : Nat} {ds : List D} {Q : D → MH → Prop} {E : XE} (q : OS (sa (startD n M ds) h) (fun _ h' => Q .non h') Q noS noS fun x fs _ h => E x fs h) (hl : ds.length = n := by rfl) : Sat (mFun n M sa ds h) Q E := by
  unfold mFun
  rw [if_pos hl]
  cases e : sa (startD n M ds) h with
  | nx ρ' h' => rw [e, OS_nx] at q; exact w_ok q
  | rt d h' => rw [e, OS_rt] at q; exact w_ok q
  | bk ρ' h' => rw [e, OS_bk] at q; exact q.elim
  | ct ρ' h' => rw [e, OS_ct] at q; exact q.elim
  | exc x fs ρ' h' => rw [e, OS_exc] at q; simp only [Sat_exc]; exact q
  | bad => rw [e, OS_bad] at q; exact q.elim
/-- a loop: what holds between two turns -/
theorem w_loop {gd : MH → Bool} {tg : MG} {body : MS} (I : Nat → SP) : ∀ {items : List D} {k : Nat} {ρ : Slots} {h : MH}, I k ρ h →
    (∀ i ρ h, I i ρ h → gd h = true) →
    (∀ i d ρ h, items[i]? = some d → I (k + i) ρ h → ∃ ρ1, tg d ρ = some ρ1 ∧ OS (body ρ1 h) (I (k + i + 1)) T N (I (k + i + 1)) E) →
    (∀ ρ h, I (k + items.length) ρ h → N ρ h) → OS (forGo gd tg body items ρ h) N T B C E
  | [], k, ρ, h, h0, hg, hs, hn => by
    rw [forGo, if_pos (hg k ρ h h0)]
    exact w_nx (hn _ _ h0)
  | d :: ds, k, ρ, h, h0, hg, hs, hn => by
    obtain ⟨ρ1, e1, q⟩ := hs 0 d ρ h rfl h0
    have go : ∀ ρ' h', I (k + 0 + 1) ρ' h' → OS (forGo gd tg body ds ρ' h') N T B C E := fun ρ' h' i => w_loop I (k := k + 1) (ρ := ρ') (h := h') i hg (fun i d' ρ h hd hi => by
      have e3 : k + (i + 1) = k + 1 + i := by omega
      have := hs (i + 1) d' ρ h (by simpa using hd) (by rw [e3]; exact hi)
      rw [e3] at this
      exact this) (fun ρ h hi => hn ρ h (by rw [List.length_cons]; have e3 : k + (ds.length + 1) = k + 1 + ds.length := by omega
                                            rw [e3]; exact hi))
    rw [forGo, if_pos (hg k ρ h h0), e1]
    cases e2 : body ρ1 h with
    | nx ρ' h' => rw [e2, OS_nx] at q; simp only [e2]; exact go ρ' h' q
    | ct ρ' h' => rw [e2, OS_ct] at q; simp only [e2]; exact go ρ' h' q
    | bk ρ' h' => rw [e2, OS_bk] at q; simp only [e2]; exact w_nx q
    | rt d h' => rw [e2, OS_rt] at q; simp only [e2]; exact w_rt q
    | exc x fs ρ' h' => rw [e2, OS_exc] at q; simp only [e2, OS_exc]; exact q
    | bad => rw [e2, OS_bad] at q; exact q.elim
theorem w_loop0 {gd : MH → Bool} {tg : MG} {body : MS} (I : Nat → SP) {items : List D} {ρ : Slots} {h : MH} (h0 : I 0 ρ h)
    (hg : ∀ i ρ h, I i ρ h → gd h = true)
    (hs : ∀ i d ρ h, items[i]? = some d → I i ρ h → ∃ ρ1, tg d ρ = some ρ1 ∧ OS (body ρ1 h) (I (i + 1)) T N (I (i + 1)) E)
    (hn : ∀ ρ h, I items.length ρ h → N ρ h) : OS (forGo gd tg body items ρ h) N T B C E :=
  w_loop I (k := 0) h0 hg (fun i d ρ h hd hi => by rw [Nat.zero_add] at hi ⊢; exact hs i d ρ h hd hi) (fun ρ h hi => hn ρ h (by rw [Nat.zero_add] at hi; exact hi))
/-- a comprehension: what holds between two turns, of the list so far -/
theorem w_comp {gd : MH → Bool} {tg : MG} {tt : MT} {te : ME} {c : Nat} {ρ : Slots} {Q : D → MH → Prop} {E : XE} (I : Nat → List D → MH → Prop) : ∀ {items : List D} {k : Nat} {acc : List D} {h : MH}, I k acc h → h[c]? = some (.lst acc) → acc.length + items.length ≤ 1000000 →
    (∀ i acc h, I i acc h → gd h = true) →
    (∀ i d acc h, items[i]? = some d → I (k + i) acc h → h[c]? = some (.lst acc) → ∃ ρ1, tg d ρ = some ρ1 ∧ ∃ b h1, tt ρ1 h = .ok b h1 ∧ (b = false → h1[c]? = some (.lst acc) ∧ I (k + i + 1) acc h1) ∧ (b = true → Sat (te ρ1 h1) (fun y h2 => h2[c]? = some (.lst acc) ∧ I (k + i + 1) (acc ++ [y]) (h2.set c (.lst (acc ++ [y])))) noX)) →
    (∀ acc h, I (k + items.length) acc h → h[c]? = some (.lst acc) → Q (.ref c) h) → Sat (lcGo gd tg tt te c ρ items h) Q E
  | [], k, acc, h, h0, hc, hl, hg, hs, hn => by
    rw [lcGo, if_pos (hg k acc h h0)]
    exact w_ok (hn _ _ h0 hc)
  | d :: ds, k, acc, h, h0, hc, hl, hg, hs, hn => by
    obtain ⟨ρ1, e1, b, h1, e2, q1, q2⟩ := hs 0 d acc h rfl h0 hc
    rw [List.length_cons] at hl
    have go : ∀ acc' h', acc'.length ≤ acc.length + 1 → I (k + 0 + 1) acc' h' → h'[c]? = some (.lst acc') → Sat (lcGo gd tg tt te c ρ ds h') Q E := fun acc' h' l i hc' => w_comp I (k := k + 1) (acc := acc') (h := h') i hc' (by omega) hg (fun i d' acc h hd hi hc => by
      have e3 : k + (i + 1) = k + 1 + i := by omega
      have := hs (i + 1) d' acc h (by simpa using hd) (by rw [e3]; exact hi) hc
      rw [e3] at this
      exact this) (fun acc h hi => hn acc h (by rw [List.length_cons]; have e3 : k + (ds.length + 1) = k + 1 + ds.length := by omega
                                                rw [e3]; exact hi))
    rw [lcGo, if_pos (hg k acc h h0), e1]
    cases b with
    | false =>
      simp only [e2]
      obtain ⟨q3, q4⟩ := q1 rfl
      exact go _ _ (by omega) q4 q3
    | true =>
      simp only [e2]
      obtain ⟨y, h2, e3, q3, q4⟩ := (q2 rfl).get
      simp only [e3, q3]
      rw [if_pos (by omega)]
      refine go _ _ (by simp) q4 ?_
      have : c < h2.length := (List.getElem?_eq_some_iff.mp q3).1
      simp [this]
/-- a comprehension whose parts change nothing -/
theorem w_compP {gd : MH → Bool} {tg : MG} {te : ME} {ρ : Slots} {Q : D → MH → Prop} {E : XE} {h0 : MH} (P : Nat → D → Prop) {items : List D} (hl : items.length ≤ 1000000)
    (hg : ∀ t, gd (h0 ++ t) = true)
    (hs : ∀ i d t, items[i]? = some d → ∃ ρ1, tg d ρ = some ρ1 ∧ Sat (te ρ1 (h0 ++ t)) (fun y h2 => h2 = h0 ++ t ∧ P i y) noX)
    (hn : ∀ ys : List D, ys.length = items.length → (∀ i y, ys[i]? = some y → P i y) → Q (.ref h0.length) (h0 ++ [.lst ys])) : Sat (lcGo gd tg mYes te h0.length ρ items (h0 ++ [.lst []])) Q E := by
  refine w_comp (fun k acc h => acc.length = k ∧ h = h0 ++ [.lst acc] ∧ ∀ i y, acc[i]? = some y → P i y) ⟨rfl, rfl, fun i y e => by simp at e⟩ (by simp) (by simpa using hl) (fun i acc h hi => by rw [hi.2.1]; exact hg _) ?_ ?_
  · rintro i d acc h hd ⟨ha, rfl, hp⟩ hc
    obtain ⟨ρ1, e1, s⟩ := hs i d [.lst acc] hd
    refine ⟨ρ1, e1, true, _, rfl, (fun z => Bool.noConfusion z), fun _ => s.mono ?_⟩
    rintro y h2 ⟨rfl, hy⟩
    refine ⟨hc, by simp [ha], by simp, fun j z hz => ?_⟩
    rcases Nat.lt_or_ge j acc.length with q | q
    · rw [List.getElem?_append_left q] at hz
      exact hp j z hz
    · rw [List.getElem?_append_right q] at hz
      have : j - acc.length = 0 := by
        have := (List.getElem?_eq_some_iff.mp hz).1
        simp at this; omega
      rw [this] at hz
      simp at hz
      subst hz
      have : j = i := by simp at ha; omega
      subst this
      exact hy
  · rintro acc h ⟨ha, rfl, hp⟩ hc
    exact hn acc (by simpa using ha) hp
end
/-! leaves -/
section
variable {Q : D → MH → Prop} {E : XE} {h : MH} {i j : Int} {x y : Str} {l m : List D}
theorem w_mod (c : 0 < j) (q : Q (.int (i % j)) h) : Sat (dMod (.int i) (.int j) h) Q E := w_eq (by rw [dMod_int, if_pos c]) q
theorem w_fdiv (c : 0 < j ∧ j < 18446744073709551616) (q : Q (.int (i / j)) h) : Sat (dFdiv (.int i) (.int j) h) Q E := w_eq (dFdiv_small i j h c.1 c.2) q
theorem w_mulS (c : (-18446744073709551616 < i ∧ i < 18446744073709551616) ∧ -18446744073709551616 < j ∧ j < 18446744073709551616) (q : Q (.int (i * j)) h) : Sat (dMul (.int i) (.int j) h) Q E := w_eq (dMul_s i j h c.1.1 c.1.2 c.2.1 c.2.2) q
theorem w_mulB {a b : Nat} (ha : Builtin.Int.intBits i ≤ a) (hb : Builtin.Int.intBits j ≤ b) (hab : a + b ≤ 134217728) (q : Q (.int (i * j)) h) : Sat (dMul (.int i) (.int j) h) Q E := w_eq (dMul_bits i j h ha hb hab) q
theorem w_addS (c : x.length + y.length ≤ 1000000) (q : Q (.str (x ++ y)) h) : Sat (dAdd (.str x) (.str y) h) Q E := w_eq (by rw [dAdd_str, if_pos c]) q
theorem w_addT (c : l.length + m.length ≤ 1000000) (q : Q (.tup (l ++ m)) h) : Sat (dAdd (.tup l) (.tup m) h) Q E := w_eq (by rw [dAdd_tup, if_pos c]) q
theorem w_addL {i j : Nat} (hi : h[i]? = some (.lst l)) (hj : h[j]? = some (.lst m)) (c : l.length + m.length ≤ 1000000) (q : Q (.ref h.length) (h ++ [.lst (l ++ m)])) : Sat (dAdd (.ref i) (.ref j) h) Q E := w_eq (by simp only [dAdd, hi, hj, if_pos c]) q
theorem w_pow {n : Nat} (c : n ≤ 1000000 ∧ i.natAbs < 2 ^ 64) (q : Q (.int (i ^ n)) h) : Sat (dPow (.int i) (.int (n : Int)) h) Q E := w_eq (by rw [dPow_int, if_pos (by omega), Int.toNat_natCast]) q
theorem w_shl {n : Nat} (c : n ≤ 1000000 ∧ i.natAbs < 2 ^ 64) (q : Q (.int (i * 2 ^ n)) h) : Sat (dShl (.int i) (.int (n : Int)) h) Q E := w_eq (by rw [dShl_int, if_pos (by omega), Int.toNat_natCast]) q
theorem w_lenS (c : x.length ≤ 1000000) (q : Q (.int x.length) h) : Sat (dLen [.str x] h) Q E := w_eq (by rw [dLen_str, if_pos c]) q
theorem w_lenL {i : Nat} (c : getL h i = some l) (q : Q (.int l.length) h) : Sat (dLen [.ref i] h) Q E := w_eq (dLen_ref c) q
theorem w_slS {lo hi : Option Int} (c : x.length ≤ 1000000) (q : Q (.str (cutS x lo hi)) h) : Sat (dSl (.str x) lo hi h) Q E := w_eq (by rw [dSl_str, if_pos c]) q
theorem w_slL {i : Nat} {lo hi : Option Int} (c : getL h i = some l) (q : Q (.ref h.length) (h ++ [.lst (cutD l lo hi)])) : Sat (dSl (.ref i) lo hi h) Q E := w_eq (dSl_ref c lo hi) q
theorem w_ixL {k : Nat} {d : D} (c : getL h k = some l) (e : atI l i = some d) (q : Q d h) : Sat (dIx (.ref k) (.int i) h) Q E := w_eq (dIx_ref c e) q
theorem w_ixT {d : D} (e : atI l i = some d) (q : Q d h) : Sat (dIx (.tup l) (.int i) h) Q E := w_eq (dIx_tup h e) q
theorem w_ixS {c : Nat} (hz : x.length ≤ 1000000) (e : atI x.cps.toList i = some c) (q : Q (.str ⟨#[c]⟩) h) : Sat (dIx (.str x) (.int i) h) Q E := w_eq (dIx_str h hz e) q
theorem getL_of {i : Nat} (e : h[i]? = some (.lst l)) : getL h i = some l := by unfold getL; rw [e]
theorem w_app {i : Nat} {d : D} (e : h[i]? = some (.lst l)) (c : l.length < 1000000) (q : Q .non (h.set i (.lst (l ++ [d])))) : Sat (dAppend (.ref i) [d] h) Q E := w_eq (by simp only [dAppend, e, if_pos c]) q
theorem w_pop {i : Nat} {d : D} (e : h[i]? = some (.lst (l ++ [d]))) (q : Q d (h.set i (.lst l))) : Sat (dPop (.ref i) [] h) Q E := w_eq (by simp [dPop, e]) q
theorem w_listL {i : Nat} (c : getL h i = some l) (q : Q (.ref h.length) (h ++ [.lst l])) : Sat (dList [.ref i] h) Q E := w_eq (by simp [dList, seqOf, c]) q
theorem w_tupL {i : Nat} (c : getL h i = some l) (q : Q (.tup l) h) : Sat (dTuple [.ref i] h) Q E := w_eq (by simp [dTuple, seqOf, c]) q
theorem w_eqK {a b : D} {k : Bool} (e : eqD a b h = some k) (q : Q (.bl k) h) : Sat (dEq a b h) Q E := w_eq (dEq_of e) q
theorem w_neK {a b : D} {k : Bool} (e : eqD a b h = some k) (q : Q (.bl (!k)) h) : Sat (dNe a b h) Q E := w_eq (dNe_of e) q
theorem w_set {QU : Unit → MH → Prop} {i : Nat} {k : Int} {n : Nat} {d : D} (e : h[i]? = some (.lst l)) (c : ixN l.length k = some n) (q : QU () (h.set i (.lst (l.set n d)))) : Sat (dSet (.ref i) (.int k) d h) QU E := w_eq (by simp only [dSet, e, c]) q
theorem allBl_map (bs : List Bool) : allBl (bs.map D.bl) = some bs := by
  induction bs with
  | nil => rfl
  | cons b bs ih => simp [allBl, ih]
theorem w_all {i : Nat} {bs : List Bool} (e : getL h i = some (bs.map .bl)) (q : Q (.bl (bs.all id)) h) : Sat (dAll [.ref i] h) Q E := w_eq (by simp [dAll, e, allBl_map]) q
theorem w_any {i : Nat} {bs : List Bool} (e : getL h i = some (bs.map .bl)) (q : Q (.bl (bs.any id)) h) : Sat (dAny [.ref i] h) Q E := w_eq (by simp [dAny, e, allBl_map]) q
theorem allStr_map (bs : List Str) : allStr (bs.map D.str) = some bs := by
  induction bs with
  | nil => rfl
  | cons b bs ih => simp [allStr, ih]
theorem w_join {i : Nat} {ys : List Str} (e : getL h i = some (ys.map .str)) (c : (ys.map (·.length)).sum + ys.length * x.length ≤ 1000000) (q : Q (.str (Txt.join x ys)) h) : Sat (dJoin (.str x) [.ref i] h) Q E := w_eq (by simp only [dJoin, seqOf, e, Option.bind_some, allStr_map, if_pos c]) q
theorem w_sortS {i : Nat} {ys : List Str} (e : getL h i = some (ys.map .str)) (c : ys.length < 64) (q : Q (.ref h.length) (h ++ [.lst ((sortS ys).map .str)])) : Sat (dSorted [.ref i] h) Q E := w_eq (by simp only [dSorted, e, List.length_map, if_pos c, allStr_map]) q
end
end Mi

/-! Lists of one's own: h goes on from h0, and the listed cells behind it are known. -/
namespace Mi
open PySem L2
abbrev LL := List (Nat × List D)
structure Own (h0 h : MH) (L : LL) : Prop where
  pre : h0 <+: h
  cell : ∀ p ∈ L, h0.length ≤ p.1 ∧ h[p.1]? = some (.lst p.2)
  nd : (L.map (·.1)).Nodup
section
variable {h0 h h' h1 : MH} {L M : LL} {i : Nat} {l l' : List D}
theorem Own.nil (h : MH) : Own h h [] := ⟨List.prefix_rfl, fun p hp => by simp at hp, List.nodup_nil⟩
theorem pre_get (p : h <+: h') {o : MO} (e : h[i]? = some o) : h'[i]? = some o := by
  obtain ⟨t, rfl⟩ := p
  rw [List.getElem?_append_left (List.getElem?_eq_some_iff.mp e).1]
  exact e
theorem pre_getL (p : h <+: h') (e : getL h i = some l) : getL h' i = some l := by
  obtain ⟨t, rfl⟩ := p
  have hi : i < h.length := by
    cases q : h[i]? with
    | none => simp [getL, q] at e
    | some o => exact (List.getElem?_eq_some_iff.mp q).1
  unfold getL
  rw [List.getElem?_append_left hi]
  exact e
theorem Own.getL (o : Own h0 h L) (e : getL h0 i = some l) : getL h i = some l := pre_getL o.pre e
theorem Own.ext (o : Own h0 h L) (p : h <+: h') : Own h0 h' L := ⟨o.pre.trans p, fun q hq => ⟨(o.cell q hq).1, pre_get p (o.cell q hq).2⟩, o.nd⟩
theorem Own.lt (o : Own h0 h L) {p : Nat × List D} (hp : p ∈ L) : p.1 < h.length := (List.getElem?_eq_some_iff.mp (o.cell p hp).2).1
theorem Own.add (o : Own h0 h L) (hi : h0.length ≤ i) (e : h[i]? = some (.lst l)) (n : ∀ p ∈ L, p.1 ≠ i) : Own h0 h ((i, l) :: L) :=
  ⟨o.pre, fun q hq => by
    rcases List.mem_cons.mp hq with rfl | hq
    · exact ⟨hi, e⟩
    · exact o.cell q hq, List.nodup_cons.mpr ⟨fun hm => by
      obtain ⟨p, hp, rfl⟩ := List.mem_map.mp hm
      exact n p hp rfl, o.nd⟩⟩
theorem Own.alloc (o : Own h0 h L) (xs : List D) : Own h0 (h ++ [.lst xs]) ((h.length, xs) :: L) :=
  (o.ext (List.prefix_append _ _)).add (o.pre.length_le) (by simp) fun p hp => Nat.ne_of_lt (o.lt hp)
theorem Own.at (o : Own h0 h L) (n : Nat) (e : L[n]? = some (i, l)) : h[i]? = some (.lst l) := (o.cell _ (List.mem_of_getElem? e)).2
theorem Own.atL (o : Own h0 h L) (n : Nat) (e : L[n]? = some (i, l)) : Mi.getL h i = some l := getL_of (o.at n e)
theorem Own.isL (o : Own h0 h L) (n : Nat) (e : L[n]? = some (i, l)) : isListD (.ref i) h = true := by rw [isListD_ref, o.atL n e]; rfl
theorem Own.setAt (o : Own h0 h L) (n : Nat) (e : L[n]? = some (i, l)) (l' : List D) : Own h0 (h.set i (.lst l')) (L.set n (i, l')) := by
  have hn : n < L.length := (List.getElem?_eq_some_iff.mp e).1
  have en : L[n] = (i, l) := (List.getElem?_eq_some_iff.mp e).2
  have hi : i < h.length := o.lt (List.mem_of_getElem? e)
  have h0i : h0.length ≤ i := (o.cell _ (List.mem_of_getElem? e)).1
  have em : (L.set n (i, l')).map (·.1) = L.map (·.1) := by
    rw [List.map_set]
    refine List.ext_getElem (by simp) fun k h1 h2 => ?_
    rw [List.getElem_set]
    split
    · rename_i q
      subst q
      rw [List.getElem_map, en]
    · rfl
  refine ⟨?_, fun q hq => ?_, by rw [em]; exact o.nd⟩
  · obtain ⟨t, rfl⟩ := o.pre
    rw [List.set_append_right _ _ h0i]
    exact List.prefix_append _ _
  · obtain ⟨k, hk, e2⟩ := List.mem_iff_getElem.mp hq
    rw [List.getElem_set] at e2
    split at e2
    · subst e2
      exact ⟨h0i, by simp [hi]⟩
    · rename_i hne
      have hk' : k < L.length := by simpa using hk
      have hm : q ∈ L := e2 ▸ List.getElem_mem hk'
      refine ⟨(o.cell q hm).1, ?_⟩
      rw [List.getElem?_set_ne]
      · exact (o.cell q hm).2
      · intro z
        have h1 : (L.map (·.1))[n]'(by simpa using hn) = (L.map (·.1))[k]'(by simpa using hk') := by
          rw [List.getElem_map, List.getElem_map, en, e2]
          exact z
        exact hne ((List.getElem_inj o.nd).mp h1)
theorem Own.trans (o : Own h0 h L) (o' : Own h h' M) : Own h0 h' (M ++ L) := by
  have o2 := o.ext o'.pre
  refine ⟨o2.pre, fun q hq => ?_, ?_⟩
  · rcases List.mem_append.mp hq with hq | hq
    · exact ⟨Nat.le_trans o.pre.length_le (o'.cell q hq).1, (o'.cell q hq).2⟩
    · exact o2.cell q hq
  · rw [List.map_append, List.nodup_append]
    refine ⟨o'.nd, o.nd, fun a ha b hb => ?_⟩
    obtain ⟨p, hp, rfl⟩ := List.mem_map.mp ha
    obtain ⟨q, hq, rfl⟩ := List.mem_map.mp hb
    have h1 := (o'.cell p hp).1
    have h2 := o.lt hq
    omega
theorem Own.sub (o : Own h0 h L) (s : M.Sublist L) : Own h0 h M := ⟨o.pre, fun p hp => o.cell p (s.subset hp), (s.map _).nodup o.nd⟩
theorem Own.tail {p : Nat × List D} (o : Own h0 h (p :: L)) : Own h0 h L := o.sub (List.sublist_cons_self _ _)
theorem Own.none (o : Own h0 h L) : Own h0 h [] := o.sub (List.nil_sublist _)
theorem Own.head {p : Nat × List D} (o : Own h0 h (p :: L)) : Own h0 h [p] := o.sub (List.Sublist.cons_cons _ (List.nil_sublist _))
theorem Own.ne (o : Own h0 h L) {a b : Nat} {p q : Nat × List D} (ha : L[a]? = some p) (hb : L[b]? = some q) (n : a ≠ b) : p.1 ≠ q.1 := by
  intro z
  have h1 := (List.getElem?_eq_some_iff.mp ha)
  have h2 := (List.getElem?_eq_some_iff.mp hb)
  refine n ((List.getElem_inj o.nd (i := a) (j := b) (h₀ := by simpa using h1.1) (h₁ := by simpa using h2.1)).mp ?_)
  rw [List.getElem_map, List.getElem_map, h1.2, h2.2]
  exact z
/-! rules -/
variable {Q : D → MH → Prop} {E : XE}
theorem o_new {xs : List D} (o : Own h0 h L) (l : xs.length ≤ 1000000) (q : ∀ i h', Own h0 h' ((i, xs) :: L) → Q (.ref i) h') : Sat (toLst xs h) Q E := w_toLst l (q _ _ (o.alloc xs))
theorem o_app {d : D} (o : Own h0 h L) (n : Nat) (e : L[n]? = some (i, l)) (c : l.length < 1000000) (q : ∀ h', Own h0 h' (L.set n (i, l ++ [d])) → Q .non h') : Sat (dAppend (.ref i) [d] h) Q E := w_app (o.at n e) c (q _ (o.setAt n e _))
theorem o_rev (o : Own h0 h L) (hl : Mi.getL h i = some l) (q : ∀ i h', Own h0 h' ((i, l.reverse) :: L) → Q (.ref i) h') : Sat (dRevL (.ref i) h) Q E := w_dRevL hl (q _ _ (o.alloc _))
theorem o_sl {lo hi : Option Int} (o : Own h0 h L) (hl : Mi.getL h i = some l) (q : ∀ i h', Own h0 h' ((i, cutD l lo hi) :: L) → Q (.ref i) h') : Sat (dSl (.ref i) lo hi h) Q E := w_slL hl (q _ _ (o.alloc _))
theorem o_list (o : Own h0 h L) (hl : Mi.getL h i = some l) (q : ∀ i h', Own h0 h' ((i, l) :: L) → Q (.ref i) h') : Sat (dList [.ref i] h) Q E := w_listL hl (q _ _ (o.alloc _))
theorem o_add {j : Nat} {m : List D} (o : Own h0 h L) (hi : h[i]? = some (.lst l)) (hj : h[j]? = some (.lst m)) (c : l.length + m.length ≤ 1000000) (q : ∀ i h', Own h0 h' ((i, l ++ m) :: L) → Q (.ref i) h') : Sat (dAdd (.ref i) (.ref j) h) Q E := w_addL hi hj c (q _ _ (o.alloc _))
theorem o_rg {j : Int} (o : Own h0 h L) (c : 0 ≤ j ∧ j ≤ 1000000) (q : ∀ i h', Own h0 h' ((i, rangeD 0 j.toNat) :: L) → Q (.ref i) h') : Sat (lrK (.int j) h) Q E := w_lrK c (q _ _ (o.alloc _))
theorem o_sortS {ys : List Str} (o : Own h0 h L) (e : Mi.getL h i = some (ys.map .str)) (c : ys.length < 64) (q : ∀ i h', Own h0 h' ((i, (sortS ys).map .str) :: L) → Q (.ref i) h') : Sat (dSorted [.ref i] h) Q E := w_sortS e c (q _ _ (o.alloc _))
theorem o_pop {d : D} (o : Own h0 h L) (n : Nat) (e : L[n]? = some (i, l ++ [d])) (q : ∀ h', Own h0 h' (L.set n (i, l)) → Q d h') : Sat (dPop (.ref i) [] h) Q E := w_pop (o.at n e) (q _ (o.setAt n e _))
theorem o_set {QU : Unit → MH → Prop} {k : Int} {m : Nat} {d : D} (o : Own h0 h L) (n : Nat) (e : L[n]? = some (i, l)) (c : ixN l.length k = some m) (q : ∀ h', Own h0 h' (L.set n (i, l.set m d)) → QU () h') : Sat (dSet (.ref i) (.int k) d h) QU E := w_set (o.at n e) c (q _ (o.setAt n e _))
/-- a comprehension whose parts change nothing -/
theorem o_comp {gd : MH → Bool} {tg : MG} {te : ME} {ρ : Slots} (P : Nat → D → Prop) {items : List D} (o : Own h0 h L) (hl : items.length ≤ 1000000)
    (hg : ∀ h', h <+: h' → gd h' = true)
    (hs : ∀ i d h', items[i]? = some d → h <+: h' → ∃ ρ1, tg d ρ = some ρ1 ∧ Sat (te ρ1 h') (fun y h2 => h2 = h' ∧ P i y) noX)
    (hn : ∀ ys : List D, ys.length = items.length → (∀ i y, ys[i]? = some y → P i y) → ∀ i h', Own h0 h' ((i, ys) :: L) → Q (.ref i) h') : Sat (lcGo gd tg mYes te h.length ρ items (h ++ [.lst []])) Q E :=
  w_compP P hl (fun t => hg _ (List.prefix_append _ _)) (fun i d t hd => hs i d _ hd (List.prefix_append _ _)) fun ys hy hp => hn ys hy hp _ _ (o.alloc ys)
/-- a comprehension whose parts change lists of one's own -/
theorem o_compS {σ : Type} {gd : MH → Bool} {tg : MG} {te : ME} {ρ : Slots} (Lf : σ → LL) (I : Nat → List D → σ → Prop) {s0 : σ} {items : List D} (o : Own h0 h (Lf s0)) (i0 : I 0 [] s0) (hl : items.length ≤ 1000000)
    (hg : ∀ c acc s h', Own h0 h' ((c, acc) :: Lf s) → gd h' = true)
    (hs : ∀ i d acc s c h', items[i]? = some d → acc.length = i → I i acc s → Own h0 h' ((c, acc) :: Lf s) → ∃ ρ1, tg d ρ = some ρ1 ∧ Sat (te ρ1 h') (fun y h2 => ∃ s', Own h0 h2 ((c, acc) :: Lf s') ∧ I (i + 1) (acc ++ [y]) s') noX)
    (hn : ∀ acc s c h', acc.length = items.length → I items.length acc s → Own h0 h' ((c, acc) :: Lf s) → Q (.ref c) h') : Sat (lcGo gd tg mYes te h.length ρ items (h ++ [.lst []])) Q E := by
  refine w_comp (fun k acc h' => acc.length = k ∧ ∃ s, I k acc s ∧ Own h0 h' ((h.length, acc) :: Lf s)) (k := 0) ⟨rfl, s0, i0, o.alloc []⟩ (by simp) (by simpa using hl) (fun i acc h' hi => by
    obtain ⟨_, s, _, hi⟩ := hi
    exact hg _ _ _ _ hi) ?_ ?_
  · rintro i d acc h' hd ⟨ha, s, hi, ho⟩ hc
    rw [Nat.zero_add] at ha hi ⊢
    obtain ⟨ρ1, e1, q⟩ := hs i d acc s _ h' hd ha hi ho
    refine ⟨ρ1, e1, true, _, rfl, (fun z => Bool.noConfusion z), fun _ => q.mono ?_⟩
    rintro y h2 ⟨s', o2, i2⟩
    exact ⟨o2.at 0 rfl, by simp [ha], s', i2, o2.setAt 0 rfl _⟩
  · rintro acc h' ⟨ha, s, hi, ho⟩ hc
    rw [Nat.zero_add] at ha hi
    exact hn acc s _ h' ha hi ho
end
end Mi

/-! Exceptions: raised with a field or none, caught, kept in a name, asked for their class and field. -/
namespace Mi
open PySem L2 PySem.Spec PyProof.Rows
section
variable {X : Cx} {pins : List (Addr × Obj)} {σ : L2.St} {H : Hp} {s : Shared}
theorem xok_own {C p x : Addr} {d : Option Addr} : XOk C d p ≠ .own x := fun z => nomatch z
theorem xok_tup {C p : Addr} {d : Option Addr} {xs : List V} : XOk C d p ≠ .tup xs := fun z => nomatch z
/-- the object of an exception gets tracked -/
theorem inv_track {p C : Addr} {d : Option Addr} {ob : Obj} {vs : Array Value} (I : Inv X pins σ H s) (hp : s.heap.get? p = some ob) (hz : Zc (.ref C) d ob) (hd : ob.data = .fields vs) (np : H p = none)
    (n0 : X.s_0.heap.get? p = none) (nL : p ≠ X.env.locals) (nC : ∀ x c, X.env.cells.lookup x = some c → c ≠ p) (nP : ∀ q ∈ X.pn ++ pins, q.1 ≠ p) : Inv X pins σ (upd H p (XOk C d p)) s := by
  have ne0 : ∀ b o, X.s_0.heap.get? b = some o → b ≠ p := fun b o e z => by rw [z, n0] at e; cases e
  refine ⟨I.ok, I.os, I.bare, ⟨I.base.keep, I.base.slot, ?_, I.base.there, ?_, ?_, ?_⟩, I.loc, I.cell, ?_, ?_, ?_, ?_, I.len⟩
  · intro b o e n x
    rw [upd_ne (ne0 b o e)]
    exact I.base.free b o e n x
  · intro b xs e
    have q := I.base.tups b xs e
    rw [upd_ne (ne_of_none q np)]
    exact q
  · intro b o u e
    have q := I.base.frzs b o u e
    rw [upd_ne (ne_of_none q np)]
    exact q
  · intro b ps e
    obtain ⟨m, q⟩ := I.base.tbls b ps e
    exact ⟨m, by rw [upd_ne (ne_of_none q np)]; exact q⟩
  · rw [upd_ne (Ne.symm nL)]
    exact I.free
  · intro x c e
    rw [upd_ne (nC x c e)]
    exact I.freeC x c e
  · intro q hq
    obtain ⟨h1, h2, h3⟩ := I.pin q hq
    exact ⟨h1, by rw [upd_ne (nP q hq)]; exact h2, h3⟩
  · intro b u e
    by_cases hb : b = p
    · subst hb
      rw [upd_same] at e
      cases e
      exact ⟨⟨ob, vs, hp, hz, hd⟩, ⟨ob, hp⟩, fun h1 h2 ⟨o, v, e1, e2⟩ k => ⟨o, v, k o e1, e2⟩⟩
    · rw [upd_ne hb] at e
      refine (I.hok b u e).stay (fun _ _ _ q => q) ?_ ?_
      · intro c q
        rw [upd_ne (ne_of_none q np)]
        exact q
      · intro c xs q
        rw [upd_ne (ne_of_none q np)]
        exact q
end
/-- what a clause wishes that keeps the exception: slot i is the clause's name, slot j the one that keeps it -/
def wKeep (K : PySem.W.Frag) (c : Value) (i j : Nat) (Wo : WX) (D : Ends) : WX := fun cls d σ H =>
  ∃ b C, cls = .ref C ∧ PySem.W.exmOne K cls c = some b ∧ (b = true → ∀ p, H p = none → D.nx (((σ.set i (some (.ref p))).set j (some (.ref p))).set i none) (upd H p (XOk C d p))) ∧ (b = false → Wo cls d σ H)
section
variable {X : Cx} {x n r : Str} {c : Value} {i j : Nat} {body : List Stmt} {qn q0 q1 q2 q3 q4 : Pos} {tb : WX → TS} {Wo : WX}
theorem ps_try_keep (hst : X.stack = X.env :: X.outer) (hfm : X.env.frame = some X.env.locals) (hND : X.N.Nodup) (hi : X.N[i]? = some n) (hj : X.N[j]? = some r) (hij : i ≠ j) (hln : X.env.kindOf n = some .local) (hlr : X.env.kindOf r = some .local) (hcn : Names X x c) (tk : Takes X Wo) (hex : X.ex = [])
    (hdn : (n == ("__debug__" : Str)) = false) (hcd : (n == ("__classdict__" : Str)) = false)
    (hsw : ∀ (p : Addr) (pn : List (Addr × Obj)), swapsWith (.Name n q2) (some (.Name r q1)) q3.line X.env = pure false)
    (hbd : ∀ (W : WX) (pn : List (Addr × Obj)) (xe : Value → Shared → Prop), Takes (X.tr pn xe) W → PassesOwn (model X.prog X.w) X.A X.env xe → PSs (X.tr pn xe) body (tb W)) :
    PS X (.Try body [.ExceptHandler (some (.Name x qn)) (some n) [.Assign [.Name r q1] (.Name n q2) q3] q0] [] [] q4) (fun D σ H => tb (wKeep X.K c i j Wo D) D σ H) := by
  refine ⟨fun pins s σ H D I q => ?_⟩
  have kk := I.ok
  have hfr : X.A.frames = some (X.env :: X.outer) := by rw [kk.frames, hst]
  refine wpAny_Try_except ?_
  let cl : List ExceptHandler := [.ExceptHandler (some (.Name x qn)) (some n) [.Assign [.Name r q1] (.Name n q2) q3] q0]
  refine wpAny_mono ((hbd (wKeep X.K c i j Wo D) (X.pn ++ pins) (fun ev t1 => wpAny (model X.prog X.w) X.A (noteFrame ev X.env) (fun _ t2 =>
    wpAny (model X.prog X.w) X.A (setFlight ev none) (fun _ t3 => wpAny (model X.prog X.w) X.A (handleBy ev X.env cl) (L2.SP X pins D) X.xe t3) X.xe t2) X.xe t1)
    (fun uu s' xx => ?_) PassesOwn.looking).run [] s σ H D (I.toTry _) q) (fun fl s1 hsp => ?_) (fun _ _ he => he)
  · obtain ⟨p, B, sI, pins', σ', H', cls, d, rfl, J', nb, up, sky, np, os, ag, b, C, rfl, hb1, hyes, hno⟩ := xx
    have J : Inv X pins σ' H' sI := J'.ofTry kk
    have sky2 : Sky B (X.env :: X.outer) p (Zc (.ref C) d) X.env.locals s'.heap := by rw [← hst]; exact sky
    show wpAny (model X.prog X.w) X.A (noteFrame (.ref p) X.env) _ _ _
    refine Sky.land Zc.steady hfr hfm sky2 fun h3 f3 up3 => ?_
    have J3 : Inv X pins σ' H' { s' with heap := h3 } := J.landed nb f3.1 (up.trans up3) os ag
    obtain ⟨o3, v3, ho3, hz3, hd3⟩ := f3.there
    have off : p ∉ frs (X.env :: X.outer) := fun hm => by
      obtain ⟨_, o', e', hnf⟩ := f3.2.2.1.mem hm
      rw [ho3] at e'
      cases e'
      exact hnf _ hd3
    have nL : p ≠ X.env.locals := fun z => off (List.mem_filterMap.mpr ⟨X.env, List.mem_cons_self, by rw [hfm, z]⟩)
    have nF : p ∉ X.fs := fun hm => by
      obtain ⟨e, he, w⟩ := List.mem_filterMap.mp hm
      exact off (List.mem_filterMap.mpr ⟨e, List.mem_cons_of_mem _ he, w⟩)
    have nI : ∀ o, sI.heap.get? p = some o → False := fun o e => by
      have z := nb p o e (by rw [hst]; exact off)
      rw [f3.2.1] at z
      cases z
    have n0 : X.s_0.heap.get? p = none := by
      cases e : X.s_0.heap.get? p with
      | none => rfl
      | some o =>
        obtain ⟨o', z⟩ := J.base.there p o e (by rw [hex]; exact fun z => nomatch z)
        exact (nI o' z).elim
    have S3 := J3.suite ho3 hd3 np nL nF
    refine wpAny_handleBy_cons (codeAny_handlers_test ?_) (by intro q; cases q)
    have ty3 : PySem.W.Looks (model X.prog X.w) h3 (typeOf (.ref p)) (.ref C) := fun _ _ _ _ k q => wpAny_typeOf_ref (k _ _ ho3) (by rw [hz3.1]; exact q)
    have mt3 := PySem.W.exm_one (M := model X.prog X.w) (J3.kIn) ty3 hb1
    have named : ∀ {Q : Value → Shared → Prop} {E : Value → Shared → Prop}, Q c { s' with heap := h3 } →
        wpAny (model X.prog X.w) (X.A.mark (some (.ref p))) (eval (.Name x qn) X.env) Q E { s' with heap := h3 } := by
      intro Q E w
      obtain ⟨g1, g2, g3⟩ := hcn
      rcases g3 with g3 | ⟨g3, g4, g5⟩
      · exact ld_glob (X := X.suite p ((p, o3) :: (X.pn ++ pins))) S3 g1 g3 w g2
      · exact ld_blt (X := X.suite p ((p, o3) :: (X.pn ++ pins))) S3 g1 g3 g4 w g5 g2
    refine named (mt3.here ?_)
    cases b with
    | true =>
      refine codeAny_handlers_suite_as (HandSPX.lands_againZ f3 fun h4 f4 up4 => ?_)
      have J4 : Inv X pins σ' H' { s' with heap := h4 } := J.landed nb f4.1 ((up.trans up3).trans up4) os ag
      obtain ⟨o4, v4, ho4, hz4, hd4⟩ := f4.there
      have S4 := J4.suite ho4 hd4 np nL nF
      refine store_ok (X := X.suite p ((p, o4) :: (X.pn ++ pins))) (v := .ref p) S4 hND hi (.inl hln) rfl (fun s5 S5 => ?_) (.inr hln)
      have su : PSs (X.suite p ((p, o4) :: (X.pn ++ pins))) [.Assign [.Name r q1] (.Name n q2) q3] (tAsg (tVar i) (gName j)) :=
        pss_one (ps_set hND hj (.inl hlr) (pe_var hi (.inl hln) hdn hcd) (hsw p (X.pn ++ pins)) (.inr hlr))
      have lt : i < σ'.length := by rw [J.len]; exact (List.getElem?_eq_some_iff.mp hi).1
      refine wpAny_mono (su.run [] s5 _ H' { nx := fun σ6 H6 => σ6 = (σ'.set i (some (.ref p))).set j (some (.ref p)) ∧ H6 = H', rt := fun _ _ => False, bk := fun _ _ => False, ct := fun _ _ => False } S5 ?_) (fun fl s6 hs6 => ?_) (fun _ _ z => False.elim z)
      · exact ⟨.ref p, by rw [List.getElem?_set_self lt], rfl, rfl⟩
      · cases fl with
        | next =>
          obtain ⟨σ6, H6, S6, rfl, rfl⟩ := hs6
          obtain ⟨hg6, _⟩ := S6.pin (p, o4) (List.mem_append_left _ List.mem_cons_self)
          have K6 := inv_track (S6.unsuite kk) hg6 hz4 hd4 np n0 nL
            (fun y c' e z => by
              obtain ⟨v, o, e1, _⟩ := J.cell y c' e
              rw [z] at e1
              exact nI o e1)
            (fun q' hq z => by
              have e1 := (J.pin q' hq).1
              rw [z] at e1
              exact nI _ e1)
          exact gone_ok K6 hND hi hln fun s7 J7 => ⟨_, _, J7, hyes rfl p np⟩
        | brk => obtain ⟨_, _, _, z⟩ := hs6; exact z.elim
        | cont => obtain ⟨_, _, _, z⟩ := hs6; exact z.elim
        | ret u => obtain ⟨_, _, _, _, _, z⟩ := hs6; exact z.elim
    | false =>
      show wpAny _ X.A (handleBy (.ref p) X.env []) _ _ _
      refine wpAny_handleBy_nil ?_
      obtain ⟨k1, k2, k3, oe, vs, T, oT, ts', he, hz, hd, h1, hr⟩ := id f3
      unfold PySem.passOn
      refine wpAny_bind (wpAny_field he hd h1 ?_)
      rw [if_neg (show ¬ ((Value.ref T == Value.none) = true) by simp)]
      have last : wpAny (model X.prog X.w) X.A (setFlight (.ref p) X.env.frame) (fun _ t4 => wpAny (model X.prog X.w) X.A (throw (.ref p) : Sem Flow) (L2.SP X pins D) X.xe t4) X.xe { s' with heap := h3 } := by
        rw [hfm]
        refine HandSPX.setFlight_upZ f3 fun h4 g4 up4 => wpAny_throw (tk _ _ ?_)
        exact ⟨p, B, sI, pins, σ', H', .ref C, d, rfl, J, nb, (up.trans up3).trans up4, .inr (.inr (by rw [hst]; exact g4)), np, os, ag, hno rfl⟩
      first
        | exact wpAny_bind (wpAny_pure (wpAny_bind last))
        | exact wpAny_bind last
  · cases fl with
    | next =>
      obtain ⟨σ', H', J', w⟩ := hsp
      exact wpAny_execs_nil ⟨σ', H', J'.ofTry kk, w⟩
    | brk =>
      obtain ⟨σ', H', J', w⟩ := hsp
      exact ⟨σ', H', J'.ofTry kk, w⟩
    | cont =>
      obtain ⟨σ', H', J', w⟩ := hsp
      exact ⟨σ', H', J'.ofTry kk, w⟩
    | ret u =>
      obtain ⟨v, σ', H', J', r', w⟩ := hsp
      exact ⟨v, σ', H', J'.ofTry kk, r', w⟩
end

/-! ### what a class of exceptions must say -/
structure ClsX (K : PySem.W.Frag) (C : Addr) : Prop where
  cl : (PySem.W.clsIn K C).isSome = true
  ga : PySem.W.findIn K (.ref C) "__getattribute__" = some (some (.builtin "BaseException.__getattribute__"))
  gg : PySem.W.findIn K (.ref C) "__getattr__" = some none
  sb : PySem.W.subIn K (.ref C) (.type "BaseException") = some true
  ca : PySem.W.findIn K (.ref C) "__class__" = some (some (.builtin "object.__class__"))
  cg : PySem.W.specialIn K (.builtin "object.__class__") "__get__" = some (some (.builtin "getset_descriptor.__get__"))
  ct : PySem.W.takesIn K (.builtin "object.__class__") = some true
  mo : PySem.W.mroIn K C (.type "object") = some true
  hd : PySem.W.hasDictIn K C = true
  ty : PySem.W.typeIn K (.ref C) = some (.type "type")
  kp : PySem.W.keepIn K (.ref C) = true
def clsXB (K : PySem.W.Frag) (C : Addr) : Bool :=
  (PySem.W.clsIn K C).isSome && (decide (PySem.W.findIn K (.ref C) "__getattribute__" = some (some (.builtin "BaseException.__getattribute__"))) && (decide (PySem.W.findIn K (.ref C) "__getattr__" = some none) &&
  (decide (PySem.W.subIn K (.ref C) (.type "BaseException") = some true) && (decide (PySem.W.findIn K (.ref C) "__class__" = some (some (.builtin "object.__class__"))) &&
  (decide (PySem.W.specialIn K (.builtin "object.__class__") "__get__" = some (some (.builtin "getset_descriptor.__get__"))) && (decide (PySem.W.takesIn K (.builtin "object.__class__") = some true) &&
  (decide (PySem.W.mroIn K C (.type "object") = some true) && (PySem.W.hasDictIn K C && (decide (PySem.W.typeIn K (.ref C) = some (.type "type")) && PySem.W.keepIn K (.ref C))))))))))
theorem clsXB_ok {K : PySem.W.Frag} {C : Addr} (h : clsXB K C = true) : ClsX K C := by
  unfold clsXB at h
  simp only [Bool.and_eq_true, decide_eq_true_eq] at h
  obtain ⟨h1, h2, h3, h4, h5, h6, h7, h8, h9, h10, h11⟩ := h
  exact ⟨h1, h2, h3, h4, h5, h6, h7, h8, h9, h10, h11⟩
/-- the classes in a table, each with a truth -/
def TabX (K : PySem.W.Frag) (l : List (Str × Bool)) (f : Addr → Bool → Prop) : Prop := ∀ c b C, l.lookup c = some b → cmOf K c = some C → ClsX K C ∧ f C b
def tabXB (K : PySem.W.Frag) (l : List (Str × Bool)) (f : Addr → Bool → Bool) : Bool := l.all fun p => match cmOf K p.1 with
  | some C => clsXB K C && f C p.2
  | none => false
theorem lookup_mem {κ α : Type} [BEq κ] [LawfulBEq κ] : ∀ {l : List (κ × α)} {c : κ} {b : α}, l.lookup c = some b → (c, b) ∈ l
  | [], _, _, h => by simp at h
  | (x, y) :: l, c, b, h => by
    rw [List.lookup_cons] at h
    split at h
    · rename_i q
      cases h
      rw [beq_iff_eq.mp q]
      exact List.mem_cons_self
    · exact List.mem_cons_of_mem _ (lookup_mem h)
theorem tabXB_ok {K : PySem.W.Frag} {l : List (Str × Bool)} {f : Addr → Bool → Bool} {g : Addr → Bool → Prop} (hfg : ∀ C b, f C b = true → g C b) (h : tabXB K l f = true) : TabX K l g := fun c b C e1 e2 => by
  have q := List.all_eq_true.mp h _ (lookup_mem e1)
  dsimp only at q
  rw [e2] at q
  obtain ⟨q1, q2⟩ := Bool.and_eq_true_iff.mp q
  exact ⟨clsXB_ok q1, hfg C b q2⟩

/-! ### caught and kept -/
def xoOf (c : Str) : List (Str × D) → Option D
  | [] => some (.xo c (Str.ofString "") .non)
  | [(f, v)] => some (.xo c f v)
  | _ => none
def mTryK (tab : List (Str × Bool)) (i j : Nat) (b : MS) : MS := fun ρ h => match b ρ h with
  | .exc c fs ρ1 h1 => match tab.lookup c with
    | some true => match xoOf c fs with
      | some d => .nx (((ρ1.set i none).set j (some d)).set i none) h1
      | none => .bad
    | some false => .exc c fs ρ1 h1
    | none => .bad
  | o => o
section
variable {K : PySem.W.Frag} {H : Hp} {μ : List Addr} {h : MH}
theorem xr_xo {cls : Value} {d : Option Addr} {c : Str} {fs : List (Str × D)} {C p : Addr} {dv : D} (x : XR (gOf w K) H μ (.ref C) d c fs) (e : xoOf c fs = some dv) (np : H p = none) : VR (gOf w K) (upd H p (XOk C d p)) μ (.ref p) dv := by
  obtain ⟨C', e1, e2, e3⟩ := x
  cases e1
  have m : Mon (gOf w K) H (upd H p (XOk C d p)) μ μ := (Saf.fresh np).mon
  rcases e3 with ⟨rfl, rfl⟩ | ⟨dd, fv, hne, rfl, h1, h2⟩
  · cases e
    exact .xo (v := .non) upd_same e2 (.inl ⟨rfl, rfl⟩) .non
  · cases h2 with
    | nil => exact absurd rfl hne
    | cons a b =>
      cases b with
      | nil =>
        cases e
        refine .xo upd_same e2 (.inr ⟨dd, _, rfl, by rw [upd_ne (ne_of_none h1 np)]; exact h1, ?_⟩) (a.mono m)
        simp [List.lookup]
      | cons _ _ => cases e
end

section
variable {X : Cx} {x n r : Str} {c : Value} {i j : Nat} {body : List Stmt} {qn q0 q1 q2 q3 q4 : Pos} {mb : MS} {W : WX} {tab : List (Str × Bool)}
theorem sx_tryK (tk : Takes X W) (hcn : Names X x c) (ht : TabX X.K tab fun C b => PySem.W.exmOne X.K (.ref C) c = some b)
    (hbd : ∀ (W : WX) (pn : List (Addr × Obj)) (xe : Value → Shared → Prop), Takes (X.tr pn xe) W → PSs (X.tr pn xe) body (tS (gOf X.w X.K) W mb)) (hND : X.N.Nodup)
    (hi : X.N[i]? = some n := by rfl) (hj : X.N[j]? = some r := by rfl) (hij : i ≠ j := by decide) (hln : X.env.kindOf n = some .local := by rfl) (hlr : X.env.kindOf r = some .local := by rfl)
    (hst : X.stack = X.env :: X.outer := by rfl) (hfm : X.env.frame = some X.env.locals := by rfl) (hex : X.ex = [] := by rfl)
    (hdn : (n == ("__debug__" : Str)) = false := by decide) (hcd : (n == ("__classdict__" : Str)) = false := by decide)
    (hsw : swapsWith (.Name n q2) (some (.Name r q1)) q3.line X.env = pure false := by rfl) :
    PS X (.Try body [.ExceptHandler (some (.Name x qn)) (some n) [.Assign [.Name r q1] (.Name n q2) q3] q0] [] [] q4) (tS (gOf X.w X.K) W (mTryK tab i j mb)) :=
  ps_mono (ps_try_keep hst hfm hND hi hj hij hln hlr hcn tk hex hdn hcd (fun _ _ => hsw) (fun W pn xe t _ => hbd W pn xe t)) fun E σ H ⟨ρ, h, μ, sr, hr, bk⟩ => by
    refine ⟨ρ, h, μ, sr, hr, ?_⟩
    simp only [mTryK] at bk
    cases e : mb ρ h with
    | exc cn fs ρ1 h1 =>
      rw [e] at bk
      dsimp only at bk
      intro cls d σ' H' μ' m sr' hr' xr
      obtain ⟨C, rfl, hC, xr'⟩ := id xr
      cases l : tab.lookup cn with
      | none => rw [l] at bk; exact bk.elim
      | some b =>
        rw [l] at bk
        obtain ⟨_, q⟩ := ht cn b C l hC
        refine ⟨b, C, rfl, q, fun hb p np => ?_, fun hb => ?_⟩
        · subst hb
          dsimp only at bk
          cases z : xoOf cn fs with
          | none => rw [z] at bk; exact bk.elim
          | some dv =>
            rw [z] at bk
            have m2 : Mon (gOf X.w X.K) H' (upd H' p (XOk C d p)) μ' μ' := (Saf.fresh np).mon
            refine bk _ _ μ' (m.trans m2) ?_ (hr'.laid np)
            exact (((sr'.mono m2).unset i _).set j (xr_xo (cls := .ref C) xr z np)).unset i _
        · subst hb
          exact bk _ d σ' H' μ' m sr' hr' xr
    | nx _ _ => rw [e] at bk; exact bk
    | rt _ _ => rw [e] at bk; exact bk
    | bk _ _ => rw [e] at bk; exact bk
    | ct _ _ => rw [e] at bk; exact bk
    | bad => rw [e] at bk; exact bk.elim
end

/-! ### the field of a kept exception -/
def tXk (K : PySem.W.Frag) (f : Str) (te : TE) : TE := fun σ H Q => te σ H fun x H1 => ∃ (p C dd : Addr) (fv : List (Str × V)) (v : V), x = .ref p ∧ H1 p = some (XOk C (some dd) p) ∧ H1 dd = some (.xd fv) ∧ fv.lookup f = some v ∧ ClsX K C ∧ PySem.W.findIn K (.ref C) f = some none ∧ Q v H1
theorem xok_at {P : Program} {w : World} {H : Hp} {hp : Heap} {p C : Addr} {d : Option Addr} (hok : HOk P w H hp) (e : H p = some (XOk C d p)) : ∃ (ob : Obj) (vs : Array Value), hp.get? p = some ob ∧ Zc (.ref C) d ob ∧ ob.data = .fields vs := (hok p _ e).1
theorem pe_xk {X : Cx} {e : Expr} {te : TE} {pos : Pos} {f : Str} (he : PE X e te) (hab : attributeBase e f X.env (eval e X.env) = eval e X.env := by rfl) : PE X (.Attribute e f pos) (tXk X.K f te) := by
  refine ⟨fun pins s σ H Q I q => attr_of hab (thn (he.run pins s σ H _ I q) fun u s1 hh => ?_)⟩
  obtain ⟨x, H1, I1, rx, p, C, dd, fv, v, rfl, e1, e2, e3, T, hno, q1⟩ := hh
  cases (show u = Value.ref p from rx)
  obtain ⟨ob, vs, ho, hz, hd⟩ := xok_at I1.hok e1
  obtain ⟨mA, hns, hrel⟩ := (show ObjOk X.prog X.w H1 s1.heap dd (.xd fv) from I1.hok dd _ e2)
  obtain ⟨od, hod, hlk⟩ := lookIn_ns hns
  obtain ⟨u, hu, ru⟩ := RelO.some_of (v := v) (o := mA f) (by rw [← e3]; exact hrel f)
  have J : PySem.W.InstAt s1.heap p ob C (some od) := ⟨ho, hz.1, by unfold PySem.W.notCls; rw [hd] <;> rfl, by rw [hz.2]; exact hod⟩
  exact HandSPX.exc_get I1.kIn J T.ga T.gg T.sb (PySem.W.findObj_own T.hd hno rfl (by rw [hlk, hu])) (handed_of ru) ⟨v, H1, I1.tok _, ru, q1⟩
def mXf (cs : List Str) (f : Str) (a : ME) : ME := fun ρ h => (a ρ h).bind fun x h1 => match x with
  | .xo c f' v => if c ∈ cs ∧ f' = f ∧ f ≠ Str.ofString "" then .ok v h1 else .bad
  | _ => .bad
theorem se_xf {X : Cx} {W : WX} {e : Expr} {me : ME} {pos : Pos} {f : Str} {cs : List Str} (he : PE X e (tE (gOf X.w X.K) W me)) (ht : ∀ c ∈ cs, ∀ C, cmOf X.K c = some C → ClsX X.K C ∧ PySem.W.findIn X.K (.ref C) f = some none)
    (hab : attributeBase e f X.env (eval e X.env) = eval e X.env := by rfl) : PE X (.Attribute e f pos) (tE (gOf X.w X.K) W (mXf cs f me)) :=
  pe_mono (pe_xk he hab) fun σ H Q ⟨ρ, h, μ, sr, hr, bk⟩ => step (rel := VR) (rel' := VR) (ma := me) (Q' := Q) sr hr bk fun v d h1 H1 μ1 m1 sr1 hr1 vx bk1 => by
    cases vx with
    | @xo p C d c f' v dv h1 h2 h3 h4 =>
      dsimp only at bk1
      split at bk1
      · rename_i q
        obtain ⟨q1, rfl, q3⟩ := q
        obtain ⟨t1, t2⟩ := ht c q1 C h2
        rcases h3 with ⟨z, _⟩ | ⟨dd, fv, rfl, e2, e3⟩
        · exact absurd z q3
        · exact ⟨p, C, dd, fv, v, rfl, h1, e2, e3, t1, t2, bk1.val hr1 h4⟩
      · exact bk1.elim
    | _ => exact bk1.elim

/-! ### isinstance of a kept exception -/
def XAt (H : Hp) (p C : Addr) : Prop := ∃ d, H p = some (XOk C d p) ∧ (d = none ∨ ∃ dd fv, d = some dd ∧ H dd = some (.xd fv))
theorem xat_kit {X : Cx} {pins : List (Addr × Obj)} {σ : L2.St} {H : Hp} {s : Shared} {p C : Addr} (I : Inv X pins σ H s) (T : ClsX X.K C) (h : XAt H p C) : ∃ Pr : Heap → Prop, PySem.W.KitX X.K (.ref p) (.ref C) Pr ∧ Pr s.heap := by
  obtain ⟨d, e1, e2⟩ := h
  obtain ⟨ob, vs, ho, hz, hd⟩ := xok_at I.hok e1
  have nc : PySem.W.notCls ob = true := by unfold PySem.W.notCls; rw [hd] <;> rfl
  rcases e2 with rfl | ⟨dd, fv, rfl, e3⟩
  · exact ⟨_, PySem.W.kitx_exc (ox := ob) (od := none) T.cl T.ga T.gg T.sb T.ca T.cg T.ct T.mo, ⟨ho, hz.1, nc, by rw [hz.2]; trivial⟩⟩
  · obtain ⟨mA, hns, _⟩ := (show ObjOk X.prog X.w H s.heap dd (.xd fv) from I.hok dd _ e3)
    obtain ⟨od, hod, _⟩ := lookIn_ns hns
    exact ⟨_, PySem.W.kitx_exc (ox := ob) (od := some od) T.cl T.ga T.gg T.sb T.ca T.cg T.ct T.mo, ⟨ho, hz.1, nc, by rw [hz.2]; exact hod⟩⟩
def Det (c : V) (u : Value) : Prop := ∀ w, RelV c w → w = u
theorem dets : ∀ {cs : List V} {us ws : List Value}, Paired Det cs us → Vals cs ws → ws = us
  | _, _, _, .nil, .nil => rfl
  | _, _, _, .cons a b, .cons r t => by rw [a _ r, dets b t]
def rIsXk (K : PySem.W.Frag) : List V → Hp → VK → Prop := fun xs H Q => ∃ (p C : Addr) (c : V) (cv : Value) (b : Bool), xs = [.ref p, c] ∧ XAt H p C ∧ Det c cv ∧ ClsX K C ∧ PySem.W.kitOne K (.ref C) cv = some b ∧ Q (.bl b) H
theorem call_isXk {X : Cx} : CallR X (.builtin "isinstance") (rIsXk X.K) := by
  intro pins s σ H xs us Q I rr hh
  obtain ⟨p, C, c, cv, b, rfl, hx, hc, T, e, q⟩ := hh
  obtain ⟨u1, u2, rfl, r1, r2⟩ := vals2 rr
  cases (show u1 = Value.ref p from r1)
  cases hc _ r2
  obtain ⟨Pr, Z, z⟩ := xat_kit I T hx
  exact PySem.W.kia_one Z I.kIn z e (fun z => nomatch z) fun tk => ⟨.bl b, H, I.tok tk, rfl, q⟩
def rIsXt (K : PySem.W.Frag) : List V → Hp → VK → Prop := fun xs H Q => ∃ (p C tp : Addr) (o : Obj) (cs : List V) (cv : List Value) (b : Bool), xs = [.ref p, .ref tp] ∧ XAt H p C ∧ H tp = some (.frz o (.tup cs)) ∧ Paired Det cs cv ∧ ClsX K C ∧ PySem.W.kitAny K (.ref C) cv = some b ∧ Q (.bl b) H
theorem call_isXt {X : Cx} : CallR X (.builtin "isinstance") (rIsXt X.K) := by
  intro pins s σ H xs us Q I rr hh
  obtain ⟨p, C, tp, o, cs, cv, b, rfl, hx, hT, hc, T, e, q⟩ := hh
  obtain ⟨u1, u2, rfl, r1, r2⟩ := vals2 rr
  cases (show u1 = Value.ref p from r1)
  cases (show u2 = Value.ref tp from r2)
  obtain ⟨Pr, Z, z⟩ := xat_kit I T hx
  obtain ⟨_, _, its, rv, ob, h1, h2, n, h3⟩ := (show ObjOk X.prog X.w H s.heap tp (.frz o (.tup cs)) from I.hok tp _ hT)
  cases dets hc rv
  obtain ⟨oc, od, dt, sl⟩ := ob
  simp only at h2 h3
  subst h2 h3
  exact PySem.W.kia_tup Z I.kIn z h1 e (fun z => nomatch z) fun tk => ⟨.bl b, H, I.tok tk, rfl, q⟩
def mIsX (tab : List (Str × Bool)) (a : ME) : ME := fun ρ h => (a ρ h).bind fun x h1 => match x with
  | .xo c _ _ => match tab.lookup c with
    | some b => .ok (.bl b) h1
    | none => .bad
  | _ => .bad
theorem xat_of {g : G} {H : Hp} {μ : List Addr} {p C : Addr} {d : Option Addr} {f : Str} {v : V} (h1 : H p = some (XOk C d p)) (h3 : (f = Str.ofString "" ∧ d = none) ∨ ∃ dd fv, d = some dd ∧ H dd = some (.xd fv) ∧ fv.lookup f = some v) : XAt H p C :=
  ⟨d, h1, by
    rcases h3 with ⟨_, h⟩ | ⟨dd, fv, h, h', _⟩
    · exact .inl h
    · exact .inr ⟨dd, fv, h, h'⟩⟩
section
variable {X : Cx} {W : WX} {a : Expr} {ma : ME} {p p2 p3 pos : Pos} {y : Str} {tab : List (Str × Bool)}
theorem se_isX {cv : Value} {v : V} (ha : PE X a (tE (gOf X.w X.K) W ma)) (hm : X.mg "isinstance" = none) (hy : PE X (.Name y p2) (tC v)) (hd : Det v cv) (ht : TabX X.K tab fun C b => PySem.W.kitOne X.K (.ref C) cv = some b) (hg : Gl X "isinstance" := by rfl)
    (s1 : starEach [a, .Name y p2] X.env = (false, eval a X.env) :: starEach [.Name y p2] X.env := by rfl) (s2 : starEach [.Name y p2] X.env = (false, eval (.Name y p2) X.env) :: starEach [] X.env := by rfl)
    (hpl : (backTo pos (starEach [.Name y p2] X.env)).any (·.1) = false := by rfl) : PE X (.Call (.Name "isinstance" p) [a, .Name y p2] [] pos) (tE (gOf X.w X.K) W (mIsX tab ma)) :=
  pe_mono (pe_callB call_isXk hg hm (by decide +kernel) (pa_cons ha (pa_cons hy pa_nil s2) s1) (by decide) (by decide) s1 hpl) fun σ H Q ⟨ρ, h, μ, sr, hr, bk⟩ =>
    step (rel := VR) (rel' := VR) (ma := ma) (Q' := Q) sr hr bk fun x d h1 H1 μ1 m1 sr1 hr1 vx bk1 => by
      cases vx with
      | @xo p C d c f v dv e1 e2 e3 e4 =>
        dsimp only at bk1
        cases l : tab.lookup c with
        | none => rw [l] at bk1; exact bk1.elim
        | some b =>
          rw [l] at bk1
          obtain ⟨t1, t2⟩ := ht c b C l e2
          exact ⟨p, C, _, cv, b, rfl, xat_of (g := gOf X.w X.K) (μ := μ1) e1 e3, hd, t1, t2, bk1.val hr1 (.bl b)⟩
      | _ => exact bk1.elim
/-- names of classes -/
inductive NmX (X : Cx) : List Expr → List V → List Value → Prop
  | nil : NmX X [] [] []
  | cons {y : Str} {p : Pos} {D : Addr} {es : List Expr} {vs : List V} {us : List Value} : PE X (.Name y p) (tC (.ref D)) → starEach (.Name y p :: es) X.env = (false, eval (.Name y p) X.env) :: starEach es X.env → NmX X es vs us → NmX X (.Name y p :: es) (.ref D :: vs) (.ref D :: us)
theorem NmX.pa : ∀ {es : List Expr} {vs : List V} {us : List Value}, NmX X es vs us → PA X es (fun σ H Q => Q vs H) ∧ Paired Det vs us ∧ vs.length = es.length
  | _, _, _, .nil => ⟨pa_mono pa_nil fun _ _ _ q => q, .nil, rfl⟩
  | _, _, _, .cons a b c => by
    obtain ⟨h1, h2, h3⟩ := c.pa
    exact ⟨pa_mono (pa_cons a h1 b) fun _ _ _ q => q, .cons (fun w r => r) h2, by simp [h3]⟩
theorem se_isXT {es : List Expr} {vs : List V} {cv : List Value} {kx : Nat} (ha : PE X a (tE (gOf X.w X.K) W ma)) (hm : X.mg "isinstance" = none) (hy : NmX X es vs cv) (hl : es.length ≤ 100) (ht : TabX X.K tab fun C b => PySem.W.kitAny X.K (.ref C) cv = some b) (hg : Gl X "isinstance" := by rfl)
    (s1 : starEach [a, .Tuple es kx p2] X.env = (false, eval a X.env) :: starEach [.Tuple es kx p2] X.env := by rfl) (s2 : starEach [.Tuple es kx p2] X.env = (false, eval (.Tuple es kx p2) X.env) :: starEach [] X.env := by rfl)
    (hpl : (backTo pos (starEach [.Tuple es kx p2] X.env)).any (·.1) = false := by rfl) : PE X (.Call (.Name "isinstance" p) [a, .Tuple es kx p2] [] pos) (tE (gOf X.w X.K) W (mIsX tab ma)) := by
  obtain ⟨n1, n2, n3⟩ := hy.pa
  refine pe_mono (pe_callB call_isXt hg hm (by decide +kernel) (pa_cons ha (pa_cons (pe_tupF n1) pa_nil s2) s1) (by decide) (by decide) s1 hpl) fun σ H Q ⟨ρ, h, μ, sr, hr, bk⟩ => ?_
  refine step (rel := VR) (rel' := VR) (ma := ma) (Q' := Q) sr hr bk fun x d h1 H1 μ1 m1 sr1 hr1 vx bk1 => ?_
  cases vx with
  | @xo p C d c f v dv e1 e2 e3 e4 =>
    dsimp only at bk1
    cases l : tab.lookup c with
    | none => rw [l] at bk1; exact bk1.elim
    | some b =>
      rw [l] at bk1
      obtain ⟨t1, t2⟩ := ht c b C l e2
      refine ⟨by rw [n3]; exact Nat.le_trans hl (by rw [sizeLine_eq]; decide), fun tp ob np od => ?_⟩
      have m2 : Mon (gOf X.w X.K) H1 (upd H1 tp (.frz ob (.tup vs))) μ1 μ1 := (Saf.fresh np).mon
      have xa := xat_of (g := gOf X.w X.K) (μ := μ1) e1 e3
      refine ⟨p, C, tp, ob, vs, cv, b, rfl, ?_, upd_same, n2, t1, t2, (Bk.mono m2 bk1).val (hr1.laid np) (.bl b)⟩
      obtain ⟨d', x1, x2⟩ := xa
      refine ⟨d', by rw [upd_ne (ne_of_none x1 np)]; exact x1, ?_⟩
      rcases x2 with x2 | ⟨dd, fv, x2, x3⟩
      · exact .inl x2
      · exact .inr ⟨dd, fv, x2, by rw [upd_ne (ne_of_none x3 np)]; exact x3⟩
  | _ => exact bk1.elim
end
end Mi

/-! Raising: a class with one field, a class without. -/
namespace Mi
open PySem L2 PySem.Spec PyProof.Rows
def spInit (K : PySem.W.Frag) (f : Str) : Sp := fun vs H Q _ => ∃ (p C : Addr) (y : V), vs = [.ref p, y] ∧ OexC K C ∧ PySem.W.findIn K (.ref C) f = some none ∧ H p = some (exo p C none) ∧
  ∀ dx, H dx = none → dx ≠ p → Q .non (upd (upd H dx (exd dx [(f, y)])) p (exo p C (some dx)))
section
variable {P : Program} {w : World} {K : PySem.W.Frag} {mg : Str → Option Value} {base : Heap}
theorem xi_fn {x qual f : Str} {st : Stmt} {fI : Addr} {fd : FuncData} (F : Fun K x qual st fI fd) (S : FnScope ["self", f] ["self", f] (defScope st))
    (hb : ∀ (cdv : Value) (A : Around) (outer : List Env) (s : Shared) (H : Hp) (E : XK), PSs (cxOf (L2.CX P w) P w K mg base ["self", f] qual (defScope st) fI cdv A outer s H E) (defBody st) (tOst K f (tVar 0) (tVar 1))) :
    FnOk P w K mg base (L2.CX P w) 1 fI fd ["self", f] (spInit K f) :=
  F.okX S (fun vs H Q E h => by obtain ⟨_, _, _, rfl, _⟩ := h; rfl) fun cdv A outer s H vs Q E hr h => ⟨_, hb cdv A outer s H E, by
    obtain ⟨p, C, y, rfl, T, hno, e, q⟩ := h
    exact ⟨y, rfl, .ref p, rfl, p, C, rfl, T, hno, .inl ⟨e, fun dx n ne => q dx n ne⟩⟩⟩
/-- a class with one field -/
def XI (P : Program) (w : World) (K : PySem.W.Frag) (mg : Str → Option Value) (base : Heap) (c f : Str) : Prop := ∃ (C fI : Addr) (fd : FuncData), cmOf K c = some C ∧ mg c = some (.ref C) ∧ OexC K C ∧
  PySem.W.findIn K (.ref C) "__init__" = some (some (.ref fI)) ∧ PySem.W.typeIn K (.ref fI) = some (.type "function") ∧ PySem.W.findIn K (.ref C) f = some none ∧ FnOk P w K mg base (L2.CX P w) 1 fI fd ["self", f] (spInit K f) ∧ Binds K fd ["self", f] []
/-- a class without -/
def X0 (K : PySem.W.Frag) (mg : Str → Option Value) (c : Str) : Prop := ∃ C : Addr, cmOf K c = some C ∧ mg c = some (.ref C) ∧ PySem.W.excIn K C [.type "ValueError", .type "Exception", .type "BaseException", .type "object"] "ValueError.__new__" = true ∧
  PySem.W.keepIn K (.ref C) = true ∧ PySem.W.subIn K (.ref C) (.type "BaseException") = some true ∧ PySem.W.typeIn K (.ref C) = some (.type "type")
end
def mRaise (c f : Str) (a : ME) : MS := fun ρ h => (a ρ h).out ρ fun d h1 => .exc c [(f, d)] ρ h1
def mRaise0 (c : Str) : MS := fun ρ h => .exc c [] ρ h
theorem passF {X : Cx} : Passes (L2.CX X.prog X.w) X (fun _ _ _ => False) := fun pins σ H s e s' I c => by
  obtain ⟨_, _, _, _, _, _, _, _, _, _, _, _, z⟩ := c
  exact z.elim
theorem made_heap {H : Hp} {p dx C : Addr} {f : Str} {y : V} (np : H p = none) (ne : dx ≠ p) : upd (del (upd (upd (upd H p (exo p C none)) dx (exd dx [(f, y)])) p (exo p C (some dx))) p) dx (.xd [(f, y)]) = upd H dx (.xd [(f, y)]) := by
  funext b
  by_cases h1 : b = dx
  · subst h1
    rw [upd_same, upd_same]
  · rw [upd_ne h1, upd_ne h1]
    by_cases h2 : b = p
    · subst h2
      rw [del_same, np]
    · rw [del_ne h2, upd_ne h2, upd_ne h1, upd_ne h2]
section
variable {X : Cx} {W : WX} {e : Expr} {me : ME} {c f m : Str} {p p2 pos pos2 : Pos} {j : Nat}
theorem sx_raise (I : XI X.prog X.w X.K X.mg X.base c f) (hr : Room 2 X.A) (tk : Takes X W) (he : PE X e (tE (gOf X.w X.K) W me)) (hc : X.calm = true := by rfl) (hg : Gl X c := by rfl) (hdb : (c == ("__debug__" : Str)) = false := by decide)
    (s1 : starEach [e] X.env = (false, eval e X.env) :: starEach [] X.env := by rfl) (hpl : (backTo pos (starEach [] X.env)).any (·.1) = false := by rfl) :
    PS X (.Raise (some (.Call (.Name c p) [e] [] pos)) none pos2) (tS (gOf X.w X.K) W (mRaise c f me)) := by
  obtain ⟨C, fI, fd, cm, hm, T, iC, tI, hno, F1, hb⟩ := I
  refine ps_mono (ps_raise hc tk (pmk_oex (dvs := []) T iC tI F1 hr hb .nil passF hg hm (pa_cons he pa_nil s1) hdb s1 hpl)) fun E σ H ⟨ρ, h, μ, sr, hr', bk⟩ => ?_
  refine stepS (rel := VR) (ma := me) (E := E) sr hr' bk fun v d h1 H1 μ1 m1 sr1 hr1 vx bk1 => ?_
  refine ⟨by show 1 ≤ 1000; decide, fun q nq => ⟨q, C, v, rfl, T, hno, upd_same, fun dx nx ne => ⟨rfl, dx, [(f, v)], upd_same, ?_, ?_, ?_⟩⟩⟩
  · rw [upd_ne ne, upd_same]
  · rw [upd_ne ne] at nx; exact nx
  · rw [made_heap nq ne]
    rw [upd_ne ne] at nx
    have m2 : Mon (gOf X.w X.K) H1 (upd H1 dx (.xd [(f, v)])) μ1 μ1 := (Saf.fresh nx).mon
    exact bk1 _ _ σ _ μ1 m2 (sr1.mono m2) (hr1.laid nx) ⟨C, rfl, cm, .inr ⟨dx, _, by simp, rfl, upd_same, .cons (vx.mono m2) .nil⟩⟩
theorem sx_raise0 (I : X0 X.K X.mg c) (tk : Takes X W) (hc : X.calm = true := by rfl) (hg : Gl X c := by rfl) (hdb : (c == ("__debug__" : Str)) = false := by decide) :
    PS X (.Raise (some (.Call (.Name c p) [.Constant (.str m) j p2] [] pos)) none pos2) (tS (gOf X.w X.K) W (mRaise0 c)) := by
  obtain ⟨C, cm, hm, x1, kp, sb, ty⟩ := I
  exact ps_mono (ps_raise hc tk (pmk_own PySem.F.excBase_ValueError x1 hm kp (raises_own sb ty) hg hdb)) fun E σ H ⟨ρ, h, μ, sr, hr', bk⟩ => bk _ none σ H μ Mon.refl sr hr' ⟨C, rfl, cm, .inl ⟨rfl, rfl⟩⟩
end
/-! ### tables by truths -/
section
variable {K : PySem.W.Frag} {h : Heap} {mg : Str → Option Value}
theorem cm_mg {x : Str} {C : Addr} (X : K.In h) (G : h.Ns mainGlobals mg) (e : cmOf K x = some C) : mg x = some (.ref C) := by
  unfold cmOf at e
  split at e
  · rename_i C' q
    cases e
    exact PySem.W.mg_of X G q
  · cases e
/-- the class y, as isinstance and except ask for it -/
def IsT (K : PySem.W.Frag) (mg : Str → Option Value) (y : Str) (l : List (Str × Bool)) : Prop := ∃ D, mg y = some (.ref D) ∧ TabX K l fun C b => PySem.W.kitOne K (.ref C) (.ref D) = some b
def ExT (K : PySem.W.Frag) (mg : Str → Option Value) (y : Str) (l : List (Str × Bool)) : Prop := ∃ D, mg y = some (.ref D) ∧ TabX K l fun C b => PySem.W.exmOne K (.ref C) (.ref D) = some b
def isTB (K : PySem.W.Frag) (y : Str) (l : List (Str × Bool)) : Bool := match cmOf K y with
  | some D => tabXB K l fun C b => PySem.W.kitOne K (.ref C) (.ref D) == some b
  | none => false
def exTB (K : PySem.W.Frag) (y : Str) (l : List (Str × Bool)) : Bool := match cmOf K y with
  | some D => tabXB K l fun C b => PySem.W.exmOne K (.ref C) (.ref D) == some b
  | none => false
theorem isTB_ok {y : Str} {l : List (Str × Bool)} (X : K.In h) (G : h.Ns mainGlobals mg) (e : isTB K y l = true) : IsT K mg y l := by
  unfold isTB at e
  split at e
  · rename_i D q
    exact ⟨D, cm_mg X G q, tabXB_ok (fun C b z => by simpa using z) e⟩
  · cases e
theorem exTB_ok {y : Str} {l : List (Str × Bool)} (X : K.In h) (G : h.Ns mainGlobals mg) (e : exTB K y l = true) : ExT K mg y l := by
  unfold exTB at e
  split at e
  · rename_i D q
    exact ⟨D, cm_mg X G q, tabXB_ok (fun C b z => by simpa using z) e⟩
  · cases e
/-- a built-in class -/
def IsB (K : PySem.W.Frag) (y : String) (l : List (Str × Bool)) : Prop := TabX K l fun C b => PySem.W.kitOne K (.ref C) (.type y) = some b
def isBB (K : PySem.W.Frag) (y : String) (l : List (Str × Bool)) : Bool := tabXB K l fun C b => PySem.W.kitOne K (.ref C) (.type y) == some b
theorem isBB_ok {y : String} {l : List (Str × Bool)} (e : isBB K y l = true) : IsB K y l := tabXB_ok (fun C b z => by simpa using z) e
/-- several classes -/
def refsOf (K : PySem.W.Frag) : List Str → Option (List Addr)
  | [] => some []
  | y :: r => match cmOf K y, refsOf K r with
    | some D, some l => some (D :: l)
    | _, _ => none
def IsTs (K : PySem.W.Frag) (mg : Str → Option Value) (ys : List Str) (l : List (Str × Bool)) : Prop := ∃ Ds : List Addr, Paired (fun y D => mg y = some (.ref D)) ys Ds ∧ TabX K l fun C b => PySem.W.kitAny K (.ref C) (Ds.map .ref) = some b
def isTsB (K : PySem.W.Frag) (ys : List Str) (l : List (Str × Bool)) : Bool := match refsOf K ys with
  | some Ds => tabXB K l fun C b => PySem.W.kitAny K (.ref C) (Ds.map .ref) == some b
  | none => false
theorem refsOf_ok (X : K.In h) (G : h.Ns mainGlobals mg) : ∀ {ys : List Str} {Ds : List Addr}, refsOf K ys = some Ds → Paired (fun y D => mg y = some (.ref D)) ys Ds
  | [], _, e => by cases e; exact .nil
  | y :: r, _, e => by
    simp only [refsOf] at e
    split at e
    · rename_i D l h1 h2
      cases e
      exact .cons (cm_mg X G h1) (refsOf_ok X G h2)
    · cases e
theorem isTsB_ok {ys : List Str} {l : List (Str × Bool)} (X : K.In h) (G : h.Ns mainGlobals mg) (e : isTsB K ys l = true) : IsTs K mg ys l := by
  unfold isTsB at e
  split at e
  · rename_i Ds q
    exact ⟨Ds, refsOf_ok X G q, tabXB_ok (fun C b z => by simpa using z) e⟩
  · cases e
/-- a field -/
def FlT (K : PySem.W.Frag) (f : Str) (cs : List Str) : Prop := ∀ c ∈ cs, ∀ C, cmOf K c = some C → ClsX K C ∧ PySem.W.findIn K (.ref C) f = some none
def flTB (K : PySem.W.Frag) (f : Str) (cs : List Str) : Bool := cs.all fun c => match cmOf K c with
  | some C => clsXB K C && decide (PySem.W.findIn K (.ref C) f = some none)
  | none => false
theorem flTB_ok {f : Str} {cs : List Str} (e : flTB K f cs = true) : FlT K f cs := fun c hc C q => by
  have z := List.all_eq_true.mp e c hc
  rw [q] at z
  obtain ⟨z1, z2⟩ := Bool.and_eq_true_iff.mp z
  exact ⟨clsXB_ok z1, of_decide_eq_true z2⟩
/-- a class without fields, to be raised -/
def x0B (K : PySem.W.Frag) (c : Str) : Bool := match cmOf K c with
  | some C => PySem.W.excIn K C [.type "ValueError", .type "Exception", .type "BaseException", .type "object"] "ValueError.__new__" && (PySem.W.keepIn K (.ref C) && (decide (PySem.W.subIn K (.ref C) (.type "BaseException") = some true) && decide (PySem.W.typeIn K (.ref C) = some (.type "type"))))
  | none => false
theorem x0B_ok {c : Str} (X : K.In h) (G : h.Ns mainGlobals mg) (e : x0B K c = true) : X0 K mg c := by
  unfold x0B at e
  split at e
  · rename_i C q
    simp only [Bool.and_eq_true, decide_eq_true_eq] at e
    exact ⟨C, q, cm_mg X G q, e.1, e.2.1, e.2.2.1, e.2.2.2⟩
  · cases e
theorem xi_mk {P : Program} {w : World} {base : Heap} {c f qual : Str} {st : Stmt} {C fI : Addr} {oc : Value} {od an : Option Addr} {osl : Array (Option Value)} {kV doc pm cdv ct : Value}
    (X : K.In h) (G : h.Ns mainGlobals mg) (a : PySem.W.nsIn K mainGlobals c = some (some (.ref C))) (hcls : OexC K C) (iC : PySem.W.findIn K (.ref C) "__init__" = some (some (.ref fI))) (tI : PySem.W.typeIn K (.ref fI) = some (.type "function")) (hno : PySem.W.findIn K (.ref C) f = some none)
    (l : K.lookup fI = some ⟨oc, od, .func (PySem.W.fnOf "__init__" qual (defArgs st) (defBody st) (defScope st) .none kV doc pm an cdv ct), osl⟩) (e : PySem.W.codeIn K cdv qual = true) (k : PySem.W.keepIn K (.ref fI) = true)
    (S : FnScope ["self", f] ["self", f] (defScope st))
    (hb : ∀ (fd : FuncData), Fun K "__init__" qual st fI fd → ∀ (cdv : Value) (A : Around) (outer : List Env) (s : Shared) (H : Hp) (E : XK), PSs (cxOf (L2.CX P w) P w K mg base ["self", f] qual (defScope st) fI cdv A outer s H E) (defBody st) (tOst K f (tVar 0) (tVar 1)))
    (hbn : ∀ (kV doc pm : Value) (an : Option Addr) (cdv ct : Value) (us : List Value), us.length = 2 → bindArgs (PySem.W.fnOf "__init__" qual (defArgs st) (defBody st) (defScope st) .none kV doc pm an cdv ct) ⟨us, []⟩ = pure ((["self", f] : List Str).zip us)) : XI P w K mg base c f := by
  have F := fun_mk (st := st) l e k
  exact ⟨C, fI, _, by unfold cmOf; rw [a], PySem.W.mg_of X G a, hcls, iC, tI, hno, xi_fn F S (hb _ F), F.binds hbn⟩
end

/-- a class over ValueError whose instances get fields -/
def oexB (K : PySem.W.Frag) (C : Addr) : Bool := (match K.lookup C with
  | some ⟨.type "type", _, .cls cd, sl⟩ => (match cd.mro, sl.toList with
    | .ref D :: bm, [_, _, _, _, some (.builtin n), _] => (D == C && (n == "ValueError.__new__" && (!cd.hasDel && (cd.hasDict && PySem.HandSPX.refsVE bm))))
    | _, _ => false)
  | _ => false) && (decide (PySem.W.findIn K (.ref C) "__setattr__" = some (some (.builtin "object.__setattr__"))) && (decide (PySem.W.subIn K (.ref C) (.type "BaseException") = some true) && (decide (PySem.W.typeIn K (.ref C) = some (.type "type")) && PySem.W.keepIn K (.ref C))))
theorem oexB_ok {K : PySem.W.Frag} {C : Addr} (h : oexB K C = true) : OexC K C := by
  unfold oexB at h
  obtain ⟨h, h'⟩ := Bool.and_eq_true_iff.mp h
  simp only [Bool.and_eq_true, decide_eq_true_eq] at h'
  obtain ⟨h1, h2, h3, h4⟩ := h'
  refine ⟨?_, h1, h2, h3, h4⟩
  split at h
  · rename_i dd cd sl ho
    split at h
    · rename_i D bm k0 k1 k2 k3 n k5 hm hs
      simp only [Bool.and_eq_true, beq_iff_eq, Bool.not_eq_true'] at h
      obtain ⟨rfl, rfl, hdel, hdd, hre⟩ := h
      obtain ⟨nm, bs, mro, ns, qn, hd, sn, sub, ab, col, del⟩ := cd
      dsimp only at hm hdel hdd
      subst hm hdel hdd
      have hsl : sl = #[k0, k1, k2, k3, some (.builtin "ValueError.__new__"), k5] := by
        obtain ⟨l⟩ := sl
        simp only at hs
        rw [hs]
      subst hsl
      exact ⟨nm, qn, ns, bs, bm, sn, sub, ab, col, dd, k0, k1, k2, k3, k5, ho, hre⟩
    · cases h
  · cases h
def inner (s : Stmt) (j : Nat) : Stmt := match s with
  | .ClassDef (body := b) .. => b.getD j (.Pass ⟨0, 0, 0, 0⟩)
  | _ => .Pass ⟨0, 0, 0, 0⟩
/-! ### as the generator writes them -/
section
variable {X : Cx} {W : WX} {a : Expr} {ma : ME} {x y n r : Str} {i j : Nat} {body : List Stmt} {mb : MS} {tab : List (Str × Bool)} {p p2 pos qn q0 q1 q2 q3 q4 : Pos}
theorem sx_try (T : ExT X.K X.mg x tab) (tk : Takes X W)
    (hbd : ∀ (W : WX) (pn : List (Addr × Obj)) (xe : Value → Shared → Prop), Takes (X.tr pn xe) W → PSs (X.tr pn xe) body (tS (gOf X.w X.K) W mb)) (hND : X.N.Nodup) (hg : Gl X x := by rfl) (hdb : (x == ("__debug__" : Str)) = false := by decide)
    (hi : X.N[i]? = some n := by rfl) (hj : X.N[j]? = some r := by rfl) (hij : i ≠ j := by decide) (hln : X.env.kindOf n = some .local := by rfl) (hlr : X.env.kindOf r = some .local := by rfl)
    (hst : X.stack = X.env :: X.outer := by rfl) (hfm : X.env.frame = some X.env.locals := by rfl) (hex : X.ex = [] := by rfl)
    (hdn : (n == ("__debug__" : Str)) = false := by decide) (hcd : (n == ("__classdict__" : Str)) = false := by decide)
    (hsw : swapsWith (.Name n q2) (some (.Name r q1)) q3.line X.env = pure false := by rfl) :
    PS X (.Try body [.ExceptHandler (some (.Name x qn)) (some n) [.Assign [.Name r q1] (.Name n q2) q3] q0] [] [] q4) (tS (gOf X.w X.K) W (mTryK tab i j mb)) := by
  obtain ⟨D, h1, h2⟩ := T
  exact sx_tryK tk ⟨hg, hdb, .inl h1⟩ h2 hbd hND hi hj hij hln hlr hst hfm hex hdn hcd hsw
theorem se_isO (T : IsT X.K X.mg y tab) (ha : PE X a (tE (gOf X.w X.K) W ma)) (hm : X.mg "isinstance" = none) (hgy : Gl X y := by rfl) (hdy : (y == ("__debug__" : Str)) = false := by decide) (hg : Gl X "isinstance" := by rfl)
    (s1 : starEach [a, .Name y p2] X.env = (false, eval a X.env) :: starEach [.Name y p2] X.env := by rfl) (s2 : starEach [.Name y p2] X.env = (false, eval (.Name y p2) X.env) :: starEach [] X.env := by rfl)
    (hpl : (backTo pos (starEach [.Name y p2] X.env)).any (·.1) = false := by rfl) : PE X (.Call (.Name "isinstance" p) [a, .Name y p2] [] pos) (tE (gOf X.w X.K) W (mIsX tab ma)) := by
  obtain ⟨D, h1, h2⟩ := T
  exact se_isX (cv := .ref D) (v := .ref D) ha hm (pe_glob hgy h1 rfl hdy) (fun w r => r) h2 hg s1 s2 hpl
theorem se_isV {t : String} (T : IsB X.K t tab) (ha : PE X a (tE (gOf X.w X.K) W ma)) (hm : X.mg "isinstance" = none) (hmy : X.mg y = none) (hv : bootBuiltins y = some (.type t)) (hgy : Gl X y := by rfl) (hny : y ≠ "__name__" := by decide) (hdy : (y == ("__debug__" : Str)) = false := by decide) (hg : Gl X "isinstance" := by rfl)
    (s1 : starEach [a, .Name y p2] X.env = (false, eval a X.env) :: starEach [.Name y p2] X.env := by rfl) (s2 : starEach [.Name y p2] X.env = (false, eval (.Name y p2) X.env) :: starEach [] X.env := by rfl)
    (hpl : (backTo pos (starEach [.Name y p2] X.env)).any (·.1) = false := by rfl) : PE X (.Call (.Name "isinstance" p) [a, .Name y p2] [] pos) (tE (gOf X.w X.K) W (mIsX tab ma)) :=
  se_isX (cv := .type t) (v := .ty t) ha hm (pe_bltn hgy hmy hv rfl hny hdy) (fun w r => r) T hg s1 s2 hpl
theorem se_fl {f : Str} {cs : List Str} (T : FlT X.K f cs) (ha : PE X a (tE (gOf X.w X.K) W ma)) (hab : attributeBase a f X.env (eval a X.env) = eval a X.env := by rfl) : PE X (.Attribute a f pos) (tE (gOf X.w X.K) W (mXf cs f ma)) := se_xf ha (fun c hc C e => T c hc C e) hab
inductive NmE (X : Cx) : List Expr → List Str → Prop
  | nil : NmE X [] []
  | cons {y : Str} {p : Pos} {es : List Expr} {ys : List Str} : Gl X y → (y == ("__debug__" : Str)) = false → starEach (.Name y p :: es) X.env = (false, eval (.Name y p) X.env) :: starEach es X.env → NmE X es ys → NmE X (.Name y p :: es) (y :: ys)
theorem nm_cons {y : Str} {p : Pos} {es : List Expr} {ys : List Str} (h : NmE X es ys) (hg : Gl X y := by rfl) (hd : (y == ("__debug__" : Str)) = false := by decide) (hs : starEach (.Name y p :: es) X.env = (false, eval (.Name y p) X.env) :: starEach es X.env := by rfl) : NmE X (.Name y p :: es) (y :: ys) := .cons hg hd hs h
theorem NmE.of : ∀ {es : List Expr} {ys : List Str} {Ds : List Addr}, NmE X es ys → Paired (fun y D => X.mg y = some (.ref D)) ys Ds → NmX X es (Ds.map .ref) (Ds.map .ref)
  | _, _, _, .nil, .nil => .nil
  | _, _, _, .cons a b c d, .cons e f => .cons (pe_glob a e rfl b) c (NmE.of d f)
theorem se_isOs {es : List Expr} {ys : List Str} {kx : Nat} (T : IsTs X.K X.mg ys tab) (ha : PE X a (tE (gOf X.w X.K) W ma)) (hm : X.mg "isinstance" = none) (hy : NmE X es ys) (hl : es.length ≤ 100 := by decide) (hg : Gl X "isinstance" := by rfl)
    (s1 : starEach [a, .Tuple es kx p2] X.env = (false, eval a X.env) :: starEach [.Tuple es kx p2] X.env := by rfl) (s2 : starEach [.Tuple es kx p2] X.env = (false, eval (.Tuple es kx p2) X.env) :: starEach [] X.env := by rfl)
    (hpl : (backTo pos (starEach [.Tuple es kx p2] X.env)).any (·.1) = false := by rfl) : PE X (.Call (.Name "isinstance" p) [a, .Tuple es kx p2] [] pos) (tE (gOf X.w X.K) W (mIsX tab ma)) := by
  obtain ⟨Ds, h1, h2⟩ := T
  exact se_isXT ha hm (hy.of h1) hl h2 hg s1 s2 hpl
end
end Mi

/-! The calculus for exceptions. -/
namespace Mi
open PySem L2
theorem sbeq (s t : String) : (Str.ofString s == Str.ofString t) = decide (Str.ofString s = Str.ofString t) := by
  by_cases h : Str.ofString s = Str.ofString t
  · rw [h]; simp
  · simp [h]
def isXK (tab : List (Str × Bool)) (x : D) (h : MH) : R D := match x with
  | .xo c _ _ => match tab.lookup c with
    | some b => .ok (.bl b) h
    | none => .bad
  | _ => .bad
def xfK (cs : List Str) (f : Str) (x : D) (h : MH) : R D := match x with
  | .xo c f' v => if c ∈ cs ∧ f' = f ∧ f ≠ Str.ofString "" then .ok v h else .bad
  | _ => .bad
def tryE (tab : List (Str × Bool)) (i j : Nat) (N : SP) (E : SX) : SX := fun c fs ρ h => match tab.lookup c with
  | some true => ∃ d, xoOf c fs = some d ∧ N (((ρ.set i none).set j (some d)).set i none) h
  | some false => E c fs ρ h
  | none => False
section
variable {N : SP} {T : D → MH → Prop} {B C : SP} {E : SX} {ρ : Slots} {h : MH} {a : ME} {b : MS} {c f : Str}
theorem w_raise (q : Sat (a ρ h) (fun d h1 => E c [(f, d)] ρ h1) fun x fs h => E x fs ρ h) : OS (mRaise c f a ρ h) N T B C E := Sat.ot (q.monoE (fun _ _ z => by rw [OS_exc]; exact z) fun _ _ _ z => z)
theorem w_raise0 (q : E c [] ρ h) : OS (mRaise0 c ρ h) N T B C E := by unfold mRaise0; rw [OS_exc]; exact q
theorem w_tryK {tab : List (Str × Bool)} {i j : Nat} (q : OS (b ρ h) N T B C (tryE tab i j N E)) : OS (mTryK tab i j b ρ h) N T B C E := by
  unfold mTryK
  cases e : b ρ h with
  | exc c fs ρ1 h1 =>
    rw [e, OS_exc] at q
    unfold tryE at q
    dsimp only
    split at q
    · rename_i l
      obtain ⟨d, e1, q⟩ := q
      (try rw [l])
      (try dsimp only)
      (try rw [e1])
      exact w_nx q
    · rename_i l
      (try rw [l])
      (try dsimp only)
      rw [OS_exc]
      exact q
    · exact q.elim
  | nx _ _ => rw [e, OS_nx] at q; exact w_nx q
  | rt _ _ => rw [e, OS_rt] at q; exact w_rt q
  | bk _ _ => rw [e, OS_bk] at q; exact w_bk q
  | ct _ _ => rw [e, OS_ct] at q; exact w_ct q
  | bad => rw [e, OS_bad] at q; exact q.elim
theorem tryE_t {tab : List (Str × Bool)} {i j : Nat} {fs : List (Str × D)} {d : D} (l : tab.lookup c = some true) (x : xoOf c fs = some d) (q : N (((ρ.set i none).set j (some d)).set i none) h) : tryE tab i j N E c fs ρ h := by
  unfold tryE
  rw [l]
  exact ⟨d, x, q⟩
variable {Q : D → MH → Prop} {X : XE}
theorem w_isX {tab : List (Str × Bool)} (q : Sat (a ρ h) (fun x h1 => Sat (isXK tab x h1) Q X) X) : Sat (mIsX tab a ρ h) Q X := Sat.bnd q
theorem w_isXK {tab : List (Str × Bool)} {v : D} {k : Bool} (l : tab.lookup c = some k) (q : Q (.bl k) h) : Sat (isXK tab (.xo c f v) h) Q X := w_eq (by simp only [isXK, l]) q
theorem w_xf {cs : List Str} (q : Sat (a ρ h) (fun x h1 => Sat (xfK cs f x h1) Q X) X) : Sat (mXf cs f a ρ h) Q X := Sat.bnd q
theorem w_xfK {cs : List Str} {v : D} (l : c ∈ cs) (n : f ≠ Str.ofString "") (q : Q v h) : Sat (xfK cs f (.xo c f v) h) Q X := w_eq (by unfold xfK; exact if_pos ⟨l, rfl, n⟩) q
theorem lk1 {x : Str} {k : Bool} : List.lookup x [(x, k)] = some k := by simp [List.lookup]
theorem isN_xo {c f : Str} {v : D} (h : MH) : dIsN (.xo c f v) .non h = .ok (.bl false) h := by unfold dIsN; simp
end
theorem w_lenLm {α : Type} {f : α → D} {l : List α} {Q : D → MH → Prop} {E : XE} {h : MH} {i : Nat} (c : getL h i = some (l.map f)) (q : Q (.int l.length) h) : Sat (dLen [.ref i] h) Q E := w_lenL c (by rw [List.length_map]; exact q)
theorem w_lenTm {α : Type} {f : α → D} {l : List α} {Q : D → MH → Prop} {E : XE} {h : MH} (q : Q (.int l.length) h) : Sat (dLen [.tup (l.map f)] h) Q E := w_eq (dLen_tup _ _) (by rw [List.length_map]; exact q)
theorem dNe_strs (x y : Str) (h : MH) : dNe (.str x) (.str y) h = .ok (.bl (!decide (x = y))) h := dNe_of (by unfold eqD; simp [scalD])
theorem dEq_bls (x y : Bool) (h : MH) : dEq (.bl x) (.bl y) h = .ok (.bl (decide (x = y))) h := dEq_of (by unfold eqD; simp [scalD])
theorem dNe_bls (x y : Bool) (h : MH) : dNe (.bl x) (.bl y) h = .ok (.bl (!decide (x = y))) h := dNe_of (by unfold eqD; simp [scalD])
theorem w_iterL {QI : List D × (MH → Bool) → MH → Prop} {E : XE} {h : MH} {i : Nat} {l : List D} (e : getL h i = some l) (q : QI (l, fun h' => decide (getL h' i = some l)) h) : Sat (iter1 (.ok (.ref i) h)) QI E := w_eq (iter1_ref _ _ _ e) q
/-- a list that is known or one's own -/
theorem Own.get' {h0 h : MH} {L : LL} {i : Nat} {l : List D} (o : Own h0 h L) (e : Mi.getL h0 i = some l) : Mi.getL h i = some l := o.getL e
end Mi

/-! except without a name; walks from the end. -/
namespace Mi
open PySem L2
def mTryO (tab : List (Str × Bool)) (b s : MS) : MS := fun ρ h => match b ρ h with
  | .exc c fs ρ1 h1 => match tab.lookup c with
    | some true => s ρ1 h1
    | some false => .exc c fs ρ1 h1
    | none => .bad
  | o => o
section
variable {X : Cx} {x : Str} {body suite : List Stmt} {b0 : Stmt} {qn q0 q4 : Pos} {mb ms : MS} {W : WX} {tab : List (Str × Bool)}
theorem sx_tryO (T : ExT X.K X.mg x tab) (tk : Takes X W)
    (hbd : ∀ (W : WX) (pn : List (Addr × Obj)) (xe : Value → Shared → Prop), Takes (X.tr pn xe) W → PSs (X.tr pn xe) body (tS (gOf X.w X.K) W mb))
    (hsu : ∀ (a : Addr) (q : Addr × Obj) (pn : List (Addr × Obj)), PSs (X.suite a (q :: pn)) (b0 :: suite) (tS (gOf X.w X.K) W ms)) (hg : Gl X x := by rfl) (hdb : (x == ("__debug__" : Str)) = false := by decide)
    (hst : X.stack = X.env :: X.outer := by rfl) (hfm : X.env.frame = some X.env.locals := by rfl) :
    PS X (.Try body [.ExceptHandler (some (.Name x qn)) none (b0 :: suite) q0] [] [] q4) (tS (gOf X.w X.K) W (mTryO tab mb ms)) := by
  obtain ⟨D, h1, h2⟩ := T
  refine ps_mono (ps_try_only (ts := fun _ _ _ => tS (gOf X.w X.K) W ms) hst hfm ⟨hg, hdb, .inl h1⟩ tk (fun W pn xe t _ => hbd W pn xe t) (fun a oe cls d pn _ _ => hsu a (a, oe) pn)) fun E σ H ⟨ρ, h, μ, sr, hr, bk⟩ => ?_
  refine ⟨ρ, h, μ, sr, hr, ?_⟩
  simp only [mTryO] at bk
  cases e : mb ρ h with
  | exc cn fs ρ1 h1 =>
    rw [e] at bk
    dsimp only at bk
    intro cls d σ' H' μ' m sr' hr' xr
    obtain ⟨C, rfl, hC, xr'⟩ := id xr
    cases l : tab.lookup cn with
    | none => rw [l] at bk; exact bk.elim
    | some b =>
      rw [l] at bk
      obtain ⟨_, q⟩ := h2 cn b C l hC
      refine ⟨b, q, fun hb p np => ?_, fun hb => ?_⟩
      · subst hb
        exact ⟨ρ1, h1, μ', sr', hr', BkS.mono m bk⟩
      · subst hb
        exact bk _ d σ' H' μ' m sr' hr' xr
  | nx _ _ => rw [e] at bk; exact bk
  | rt _ _ => rw [e] at bk; exact bk
  | bk _ _ => rw [e] at bk; exact bk
  | ct _ _ => rw [e] at bk; exact bk
  | bad => rw [e] at bk; exact bk.elim
end
def tryO (tab : List (Str × Bool)) (s : MS) (N : SP) (T : D → MH → Prop) (B C : SP) (E : SX) : SX := fun c fs ρ h => match tab.lookup c with
  | some true => OS (s ρ h) N T B C E
  | some false => E c fs ρ h
  | none => False
theorem w_tryO {N : SP} {T : D → MH → Prop} {B C : SP} {E : SX} {ρ : Slots} {h : MH} {b s : MS} {tab : List (Str × Bool)} (q : OS (b ρ h) N T B C (tryO tab s N T B C E)) : OS (mTryO tab b s ρ h) N T B C E := by
  unfold mTryO
  cases e : b ρ h with
  | exc c fs ρ1 h1 =>
    rw [e, OS_exc] at q
    unfold tryO at q
    dsimp only
    cases l : tab.lookup c with
    | none => rw [l] at q; exact q.elim
    | some k =>
      rw [l] at q
      cases k with
      | true => exact q
      | false => dsimp only at q ⊢; rw [OS_exc]; exact q
  | nx _ _ => rw [e, OS_nx] at q; exact w_nx q
  | rt _ _ => rw [e, OS_rt] at q; exact w_rt q
  | bk _ _ => rw [e, OS_bk] at q; exact w_bk q
  | ct _ _ => rw [e, OS_ct] at q; exact w_ct q
  | bad => rw [e, OS_bad] at q; exact q.elim
theorem br_a {p A B R : Prop} (a : A) (r : ¬p → A → R) : Br p (Br (true = true) A B) R := ⟨fun _ => br_tt a, fun n => r n a⟩
theorem br_b {p A B R : Prop} (b : B) (r : p → B → R) : Br p R (Br (false = true) A B) := ⟨fun n => r n b, fun _ => br_ff b⟩

theorem lkA {x : Str} {k : Bool} {l : List (Str × Bool)} : List.lookup x ((x, k) :: l) = some k := by simp [List.lookup]
theorem lkB {x y : Str} {b : Bool} {l : List (Str × Bool)} {r : Option Bool} (h : (x == y) = false) (q : List.lookup x l = r) : List.lookup x ((y, b) :: l) = r := by rw [List.lookup_cons, h]; exact q
theorem w_seqM {N : SP} {T : D → MH → Prop} {B C : SP} {E : SX} {ρ : Slots} {h : MH} {sa sb : MS} (mid : SP) (q : OS (sa ρ h) mid T B C E) (k : ∀ ρ' h', mid ρ' h' → OS (sb ρ' h') N T B C E) : OS (mSeq sa sb ρ h) N T B C E := w_seq (q.mono k (fun _ _ z => z) (fun _ _ z => z) (fun _ _ z => z) (fun _ _ _ _ z => z))
end Mi

/-! Lists walked from the end; while by a measure. -/
namespace Mi
open PySem L2
def revK (x : D) (h1 : MH) : R (List D × (MH → Bool)) := match x with
  | .ref i => match getL h1 i with
    | some l => .ok (l.reverse, fun h' => decide (getL h' i = some l)) h1
    | none => .bad
  | _ => .bad
def mRevI (a : ME) : MI := fun ρ h => (a ρ h).bind fun x h1 => revK x h1
section
variable {X : Cx} {g : G} {W : WX} {e tg : Expr} {ma : ME} {p pos : Pos}
theorem jr_revL {H0 : Hp} {μ0 : List Addr} {q : Addr} {i : Nat} {l : List D} (hi : μ0[i]? = some q) : JR g H0 μ0 (Itv g.K q l.length) (l.reverse, fun h' => decide (getL h' i = some l)) := fun k H μ h m hr gd => by
  have z : getL h i = some l := of_decide_eq_true gd
  obtain ⟨xs, hs, vs⟩ := hr.list (m.ix hi) z
  dsimp only
  rw [List.length_reverse]
  refine ⟨fun lt => ?_, fun le => le⟩
  have hx : l[l.length - 1 - k]? = some l[l.length - 1 - k] := List.getElem?_eq_getElem (by omega)
  obtain ⟨v, h1, h2⟩ := vs.get hx
  refine ⟨⟨lt, xs, v, hs, h1⟩, fun x H' y => ?_⟩
  obtain ⟨e, y⟩ := y
  subst e
  have := y xs hs
  rw [h1] at this
  cases this
  exact ⟨_, by rw [List.getElem?_reverse lt]; exact hx, Mon.refl, hr, h2⟩
theorem si_revI (hm : X.mg "reversed" = none) (he : PE X e (tE g W ma)) (hg : Gl X "reversed" := by rfl) (hK : X.K = g.K := by rfl) (s1 : starEach [e] X.env = (false, eval e X.env) :: starEach [] X.env := by rfl) (hs : starEach [e] X.env = [(false, eval e X.env)] := by rfl) :
    PI X tg (.Call (.Name "reversed" p) [e] [] pos) (tI g W (mRevI ma)) :=
  pi_mono (pi_reversed hg hm (pa_cons he pa_nil s1) hs) fun σ H R ⟨ρ, h, μ, sr, hr, bk⟩ => by
    refine step (rel := VR) (rel' := fun g => JR g) (ma := ma) (Q' := R) sr hr bk fun x d h1 H1 μ1 m1 sr1 hr1 vx bk1 => ?_
    unfold revK at bk1
    cases vx with
    | @ref q i hi =>
      dsimp only at bk1
      cases z : getL h1 i with
      | none => rw [z] at bk1; exact bk1.elim
      | some l =>
        rw [z] at bk1
        obtain ⟨xs, hs, vs⟩ := hr1.list hi z
        refine ⟨q, xs, rfl, by rw [hK]; exact hs, ?_⟩
        rw [vs.length, hK]
        exact bk1 _ H1 μ1 Mon.refl hr1 (jr_revL hi)
    | _ => exact bk1.elim
end
section
variable {N : SP} {T : D → MH → Prop} {B C : SP} {E : SX} {QI : List D × (MH → Bool) → MH → Prop} {X : XE}
theorem w_revI {a : ME} {ρ : Slots} {h : MH} (q : Sat (a ρ h) (fun x h1 => Sat (revK x h1) QI X) X) : Sat (mRevI a ρ h) QI X := Sat.bnd q
theorem w_revK {i : Nat} {l : List D} {h : MH} (e : getL h i = some l) (q : QI (l.reverse, fun h' => decide (getL h' i = some l)) h) : Sat (revK (.ref i) h) QI X := w_eq (by simp only [revK, e]) q
theorem w_whGo {c : MT} {body : MS} (I : Nat → SP)
    (hs : ∀ m ρ h, I m ρ h → Sat (c ρ h) (fun b h1 => (b = true → OS (body ρ h1) (fun ρ' h' => ∃ m', m' < m ∧ I m' ρ' h') T N (fun ρ' h' => ∃ m', m' < m ∧ I m' ρ' h') E) ∧ (b = false → N ρ h1)) fun x fs h => E x fs ρ h) :
    ∀ (n m : Nat) (ρ : Slots) (h : MH), m < n → I m ρ h → OS (whGo c body n ρ h) N T B C E := by
  intro n
  induction n with
  | zero => intro m ρ h hm; omega
  | succ n ih =>
    intro m ρ h hm hi
    rw [whGo]
    refine Sat.ot ((hs m ρ h hi).monoE (fun b h1 q => ?_) fun _ _ _ z => z)
    cases b with
    | false =>
      rw [if_neg (by decide)]
      exact w_nx (q.2 rfl)
    | true =>
      rw [if_pos rfl]
      have q1 := q.1 rfl
      cases e : body ρ h1 with
      | nx ρ' h' =>
        rw [e, OS_nx] at q1
        obtain ⟨m', h1, h2⟩ := q1
        exact ih m' ρ' h' (by omega) h2
      | ct ρ' h' =>
        rw [e, OS_ct] at q1
        obtain ⟨m', h1, h2⟩ := q1
        exact ih m' ρ' h' (by omega) h2
      | bk ρ' h' => rw [e, OS_bk] at q1; exact w_nx q1
      | rt d h' => rw [e, OS_rt] at q1; exact w_rt q1
      | exc x fs ρ' h' => rw [e, OS_exc] at q1; simp only [OS_exc]; exact q1
      | bad => rw [e, OS_bad] at q1; exact q1.elim
theorem w_while {c : MT} {body : MS} {n : Nat} {ρ : Slots} {h : MH} (I : Nat → SP) (m : Nat) (hm : m < n) (hi : I m ρ h)
    (hs : ∀ m ρ h, I m ρ h → Sat (c ρ h) (fun b h1 => Br (b = true) (OS (body ρ h1) (fun ρ' h' => ∃ m', m' < m ∧ I m' ρ' h') T N (fun ρ' h' => ∃ m', m' < m ∧ I m' ρ' h') E) (N ρ h1)) fun x fs h => E x fs ρ h) : OS (mWhile n c body ρ h) N T B C E :=
  w_whGo I (fun m ρ h hi => (hs m ρ h hi).monoE (fun b h1 z => ⟨z.1, fun e => z.2 (by rw [e]; decide)⟩) fun _ _ _ z => z) n m ρ h hm hi
end

theorem allSome_nil {α : Type} {l : List (Option α)} {r : List α} (h : allSome l = some r) : (l = [] ↔ r = []) := by
  cases l with
  | nil => cases h; simp
  | cons a l =>
    cases a with
    | none => cases h
    | some a =>
      simp only [allSome, Option.map_eq_some_iff] at h
      obtain ⟨r', _, rfl⟩ := h
      simp
theorem eqD_emp {l : List D} {h : MH} {k : Bool} (e : eqD (.tup l) (.tup []) h = some k) : k = decide (l = []) := by
  unfold eqD at e
  rw [if_neg (by simp [scalD])] at e
  split at e
  · rename_i d e' q1 q2
    split at e
    · cases e
      simp only [pyOf, Option.map_eq_some_iff] at q1 q2
      obtain ⟨as, q1, rfl⟩ := q1
      obtain ⟨bs, q2, rfl⟩ := q2
      have h1 := allSome_nil q1
      have h2 := allSome_nil q2
      have hb : bs = [] := h2.mp rfl
      subst hb
      rw [List.map_eq_nil_iff] at h1
      cases as with
      | nil => simp [PyData.eqv, PyData.eqvAll, h1.mpr rfl]
      | cons a as =>
        have : l ≠ [] := fun z => by have := h1.mp z; cases this
        simp [PyData.eqv, PyData.eqvAll, this]
    · cases e
  · cases e
theorem dEq_emp (l : List D) (h : MH) : dEq (.tup l) (.tup []) h = .ok (.bl (decide (l = []))) h := by
  unfold dEq
  cases e : eqD (.tup l) (.tup []) h with
  | some k => simp only [eqD_emp e]
  | none =>
    have : emp2 (.tup l) (.tup []) = some (decide (l = [])) := by
      unfold emp2
      simp
    simp only [this]
theorem dNe_emp (l : List D) (h : MH) : dNe (.tup l) (.tup []) h = .ok (.bl (!decide (l = []))) h := by
  unfold dNe
  cases e : eqD (.tup l) (.tup []) h with
  | some k => simp only [eqD_emp e]
  | none =>
    have : emp2 (.tup l) (.tup []) = some (decide (l = [])) := by
      unfold emp2
      simp
    simp only [this]
end Mi

/-! Lists and tuples many times. -/
namespace Mi
open PySem PySem.Spec PyProof.Rows L2
section
variable {X : Cx}
theorem tup_once (l : Addr) (its : Array Value) (n : Nat) (dd : Option Addr) (sl : Array (Option Value)) (u : Tok) :
    Meets (Builtin.«tuple.__mul__» ⟨[.ref l, .int 1 u], []⟩) (fun _ R s => s.heap.get? l = some { cls := .type "tuple", dict := dd, data := .seq its n, slots := sl } ∧ R (.ok (.ret (.ref l))) s) :=
  .of_wp fun prog w A R s h => by
    obtain ⟨hp, g, d, tk, os⟩ := s
    obtain ⟨hl, h⟩ := h
    have f1 := AutoSeq1.idx_int
    wp_walk using wpAny_loadPart' hl
    exact ⟨_, rfl, h⟩
/-- a tuple of one item so many times -/
def rRepF (K : PySem.W.Frag) : R2 := fun x y H Q => ∃ l k z, x = .ref l ∧ y = .int k ∧ SqT K H l [z] ∧ 1 ≤ k ∧ k ≤ 1000 ∧
  (k = 1 → Q (.ref l) H) ∧ (2 ≤ k → ∀ (p : Addr) (ob : Obj), H p = none → ob.dict = none → Q (.ref p) (upd H p (.frz ob (.tup (List.replicate k.toNat [z]).flatten))))
theorem op_repF : OpR X (binaryOp .Mult) (rRepF X.K) := by
  intro pins s σ H x y v u Q I rx ry hh
  obtain ⟨l, k, z, rfl, rfl, hT, k1, k2, q1, q2⟩ := hh
  cases rx
  obtain ⟨t, rfl⟩ := ry
  obtain ⟨its, r, ⟨⟨cl, dd, da, sl⟩, ho, hc, n, hd⟩, _⟩ := I.tuple hT
  simp only at hc hd
  subst hc hd
  have hle : its.length = 1 := r.length.symm
  refine wpAny_binaryOp_repeat_ref (T := "tuple") (U := "int") (by decide) ⟨_, ho, rfl⟩ (fun s' => typeIs_int s' k t) noFill_tuple_mul F.fills_int_mul F.slot_int_rmul repeat_tuple F.slot_int_index.lookup ?_
  refine call_meets F.slot_int_rmul (typeIs_int s k t) F.entry_int_rmul (F.args_int_rmul_2 _ _) (int_rmul_tuple k t l its.toArray n dd sl) ⟨ho, rfl, ⟨_, ho, rfl⟩, ?_⟩
  by_cases ke : k = 1
  · subst ke
    exact call_meets F.slot_tuple_mul ⟨_, ho, rfl⟩ F.entry_tuple_mul (F.args_tuple_mul_2 _ _) (tup_once l its.toArray n dd sl t) ⟨ho, ⟨.ref l, H, I, rfl, q1 rfl⟩⟩
  have i1 : its.toArray.isEmpty = false := by
    cases its with
    | nil => simp at hle
    | cons _ _ => rfl
  have e0 : (decide (k < -(2 ^ 63)) || decide (k ≥ 2 ^ 63)) = false := by simp; omega
  have e1 : (its.toArray.isEmpty || k == 1) = false := by rw [i1]; simp [ke]
  have e2 : (decide (k ≤ 0) || its.toArray.isEmpty) = false := by rw [i1]; simp; omega
  have e3 : ((its.toArray.size : Nat) : Int) * k = k := by rw [List.size_toArray, hle]; simp
  have e4 : Builtin.Tuple.tupleTooMany (((its.toArray.size : Nat) : Int) * k) = false := by
    rw [e3]
    unfold Builtin.Tuple.tupleTooMany
    rw [sizeLine_eq]
    simp
    omega
  have e5 : (List.replicate k.toNat its).flatten.length = k.toNat := by rw [PyProof.Rows.lm_len_rep_flat, hle, Nat.mul_one]
  have e6 : (List.replicate k.toNat [z]).flatten.length = k.toNat := by rw [PyProof.Rows.lm_len_rep_flat]; simp
  refine call_meets F.slot_tuple_mul ⟨_, ho, rfl⟩ F.entry_tuple_mul (F.args_tuple_mul_2 _ _) (tuple_mulW l its.toArray n dd sl k t e0 e1 e2 (by rw [e3]; omega) e4 (by rw [size_rep, List.size_toArray, e5, sizeLine_eq]; omega)) ⟨ho, ?_⟩
  rw [size_rep]
  refine ⟨.ref s.heap.objs.size, upd H s.heap.objs.size (.frz { cls := .type "tuple", data := .seq (List.replicate k.toNat its).flatten.toArray } (.tup (List.replicate k.toNat [z]).flatten)), ?_, rfl, q2 (by omega) _ _ (I.hok.fresh (Nat.le_refl _)) rfl⟩
  exact I.laid (t' := s.toks) (fun b ob e => Heap.get?_push_of_some _ e) (Nat.le_refl _) ⟨Heap.get?_push_size _ rfl, by rw [e6, sizeLine_eq]; omega, _, r.rep k.toNat, PyProof.Rows.IsTup.new _ _⟩
end
def dRep : D → D → MH → R D
  | .ref i, .int n, h => match h[i]? with
    | some (.lst l) => if 0 ≤ n ∧ n ≤ 1000 ∧ l.length ≤ 1000 then .ok (.ref h.length) (h ++ [.lst (List.replicate n.toNat l).flatten]) else .bad
    | _ => .bad
  | .tup [z], .int n, h => if 1 ≤ n ∧ n ≤ 1000 then .ok (.tup (List.replicate n.toNat [z]).flatten) h else .bad
  | _, _, _ => .bad
section
variable {X : Cx} {g : G}
def rRepA (K : PySem.W.Frag) : R2 := fun x y H Q => rRep x y H Q ∨ rRepF K x y H Q
theorem op_repA : OpR X (binaryOp .Mult) (rRepA X.K) := op_rep.or op_repF
theorem vrs_rep {H : Hp} {μ : List Addr} {xs : List V} {ds : List D} (h : VRs g H μ xs ds) : ∀ n : Nat, VRs g H μ (List.replicate n xs).flatten (List.replicate n ds).flatten
  | 0 => .nil
  | n + 1 => by
    rw [List.replicate_succ, List.replicate_succ, List.flatten_cons, List.flatten_cons]
    exact h.append (vrs_rep h n)
theorem s2_rep : S2 g (rRepA g.K) dRep := by
  intro H μ h x y a b Q W hr vx vy bk
  cases vx with
  | @tup p xs ds hs vs =>
    cases vy with
    | int n =>
      cases vs with
      | @cons v d _ _ va vb =>
        cases vb with
        | nil =>
          simp only [dRep] at bk
          split at bk
          · rename_i c
            refine .inr ⟨p, n, _, rfl, rfl, hs.sq, c.1, c.2, fun e => ?_, fun _ q ob hq ho => ?_⟩
            · subst e
              exact bk.val hr (.tup hs (.cons va .nil))
            · exact bk.newT hr (vrs_rep (.cons va .nil) n.toNat) hq ho
          · exact bk.elim
        | cons _ _ => exact bk.elim
      | nil => exact bk.elim
    | _ => cases vs with
      | nil => exact bk.elim
      | cons _ vb => cases vb <;> exact bk.elim
  | @ref p i hi =>
    cases vy with
    | int n =>
      simp only [dRep] at bk
      split at bk
      · rename_i l e1
        obtain ⟨xs, h1, v1⟩ := hr.lst hi e1
        split at bk
        · rename_i c
          have hl : xs.length = l.length := v1.length
          have hm : xs.length * n.toNat ≤ 1000 * 1000 := Nat.mul_le_mul (by omega) (by omega)
          exact .inl ⟨p, n, xs, rfl, rfl, h1, by omega, by omega, by rw [sizeLine_eq]; omega, fun r hr' => bk.newL hr (vrs_rep v1 n.toNat) hr'⟩
        · exact bk.elim
      · exact bk.elim
    | _ => exact bk.elim
  | _ => exact bk.elim
end
end Mi

/-! zip of tuples; sum, max of a list of ints. -/
namespace Mi
open PySem L2
def zipT (x y : D) (h : MH) : R (List D × (MH → Bool)) := match x, y with
  | .tup l, .tup m => .ok (zipD l m, yes) h
  | _, _ => .bad
def mZipT (a b : ME) : MI := fun ρ h => (a ρ h).bind fun x h1 => (b ρ h1).bind fun y h2 => zipT x y h2
section
variable {X : Cx} {g : G} {W : WX} {a b : Expr} {ma mb : ME} {pos : Pos}
theorem jr_zipT {H0 : Hp} {μ0 : List Addr} {p q : Addr} {xs ys : List V} {l m : List D} (hp : Tk g.K H0 p xs) (vs : VRs g H0 μ0 xs l) (hq : Tk g.K H0 q ys) (vt : VRs g H0 μ0 ys m) :
    JRr SV g H0 μ0 (RZ.ItzT g.K p q) (zipD l m, yes) := fun k H μ h mm hr gd => by
  have hs := (mm.tups _ _ hp).sq
  have ht := (mm.tups _ _ hq).sq
  have vs := vs.mono mm
  have vt := vt.mono mm
  refine ⟨fun lt => ?_, fun le => ?_⟩
  · obtain ⟨x, y, ex, ey, ed⟩ := zipD_get (List.getElem?_eq_getElem lt)
    obtain ⟨v, h1, h2⟩ := vs.get ex
    obtain ⟨w, h3, h4⟩ := vt.get ey
    refine ⟨⟨xs, ys, v, w, hs, ht, h1, h3⟩, fun z H' yl => ?_⟩
    obtain ⟨T, x', y', rfl, hT, rfl, e1, e2⟩ := yl
    have e1' := e1 xs hs
    have e2' := e2 ys ht
    rw [h1] at e1'
    rw [h3] at e2'
    cases e1'
    cases e2'
    have m2 : Mon g H (upd H T (.tup [v, w])) μ μ := (Saf.fresh hT).mon
    refine ⟨_, List.getElem?_eq_getElem lt, m2, hr.laid hT, T, [v, w], [x, y], rfl, ed, .inl (.inl upd_same), ?_⟩
    exact .cons (h2.mono m2) (.cons (h4.mono m2) .nil)
  · rw [zipD_length] at le
    refine ⟨xs, ys, hs, ht, ?_⟩
    rw [vs.length, vt.length]
    omega
theorem si_zipT {p tpos : Pos} {elts : List Expr} {kk : Nat} (hm : X.mg "zip" = none) (ha : PE X a (tE g W ma)) (hb : PE X b (tE g W mb)) (hg : Gl X "zip" := by rfl) (hK : X.K = g.K := by rfl)
    (hs : starEach [a, b] X.env = (false, eval a X.env) :: starEach [b] X.env := by rfl) (hs2 : starEach [b] X.env = (false, eval b X.env) :: starEach [] X.env := by rfl) (hpl : (backTo pos (starEach [b] X.env)).any (·.1) = false := by rfl) :
    PI X (.Tuple elts kk tpos) (.Call (.Name "zip" p) [a, b] [] pos) (tIr SV g W (mZipT ma mb)) :=
  pi_mono (RZ.pi_zipA hg hm (pa_cons ha (pa_cons hb pa_nil hs2) hs) hs hpl) fun σ H R ⟨ρ, h, μ, sr, hr, bk⟩ => step (rel := VR) (rel' := JRr SV) (ma := ma) (Q' := R) sr hr bk fun x d h1 H1 μ1 m1 sr1 hr1 vx bk1 =>
    step (rel := VR) (rel' := JRr SV) (ma := mb) (Q' := R) sr1 hr1 bk1 fun y d2 h2 H2 μ2 m2 sr2 hr2 vy bk2 => by
      have vx := vx.mono m2
      rw [hK]
      cases vx with
      | @tup p xs l hp vs =>
        cases vy with
        | @tup q ys m hq vt =>
          simp only [zipT] at bk2
          exact ⟨p, q, xs, ys, rfl, .inr ⟨hp.sq, hq.sq, bk2 _ H2 μ2 Mon.refl hr2 (jr_zipT hp vs hq vt)⟩⟩
        | _ => exact bk2.elim
      | _ => exact bk2.elim
end
/-- sum of a list of ints -/
def dSum : List D → MH → R D
  | [.ref i], h => match (getL h i).bind allInt with
    | some ns => .ok (.int ns.sum) h
    | none => .bad
  | _, _ => .bad
def topI : List Int → Int
  | [] => 0
  | [a] => a
  | a :: l => if topI l < a then a else topI l
theorem topI_max : ∀ {l : List Int} {m : Int}, m ∈ l → (∀ y ∈ l, y ≤ m) → m = topI l
  | [a], m, h, _ => by simpa [topI] using h
  | a :: b :: l, m, h, hm => by
    have hb : topI (a :: b :: l) = if topI (b :: l) < a then a else topI (b :: l) := rfl
    have key : ∀ (l : List Int), l ≠ [] → topI l ∈ l ∧ ∀ y ∈ l, y ≤ topI l := by
      intro l
      induction l with
      | nil => intro h; exact absurd rfl h
      | cons c l ih =>
        intro _
        cases l with
        | nil => exact ⟨by simp [topI], fun y hy => by simp at hy; simp [topI, hy]⟩
        | cons d l =>
          obtain ⟨h1, h2⟩ := ih (by simp)
          have e : topI (c :: d :: l) = if topI (d :: l) < c then c else topI (d :: l) := rfl
          rw [e]
          split
          · rename_i lt
            refine ⟨List.mem_cons_self, fun y hy => ?_⟩
            rcases List.mem_cons.mp hy with rfl | hy
            · exact Int.le_refl _
            · have := h2 y hy; omega
          · rename_i lt
            refine ⟨List.mem_cons_of_mem _ h1, fun y hy => ?_⟩
            rcases List.mem_cons.mp hy with rfl | hy
            · omega
            · exact h2 y hy
    obtain ⟨k1, k2⟩ := key (a :: b :: l) (by simp)
    have := k2 m h
    have := hm _ k1
    omega
def dMaxL : List D → MH → R D
  | [.ref i], h => match (getL h i).bind allInt with
    | some ns => if 0 < ns.length then .ok (.int (topI ns)) h else .bad
    | none => .bad
  | _, _ => .bad
section
variable {g : G}
theorem sn_sum : SN g (rSum g.K) dSum := sn1 (fun H μ h x a Q W hr va bk => by
  cases va with
  | @ref p i hi =>
    simp only [dSum] at bk
    split at bk
    · rename_i ns q
      obtain ⟨l, q1, q2⟩ := Option.bind_eq_some_iff.mp q
      obtain ⟨xs, hs, vs⟩ := hr.list hi q1
      exact ⟨p, ns, rfl, by rw [← ints_of vs q2]; exact hs, bk.val hr (.int _)⟩
    · exact bk.elim
  | _ => exact bk.elim) (fun _ => rfl) (fun a b l h => by simp [dSum])
theorem sn_maxL : SN g (rMax g.K) dMaxL := sn1 (fun H μ h x a Q W hr va bk => by
  cases va with
  | @ref p i hi =>
    simp only [dMaxL] at bk
    split at bk
    · rename_i ns q
      obtain ⟨l, q1, q2⟩ := Option.bind_eq_some_iff.mp q
      obtain ⟨xs, hs, vs⟩ := hr.list hi q1
      split at bk
      · rename_i c
        refine ⟨p, ns, rfl, by rw [← ints_of vs q2]; exact hs, c, fun m h1 h2 => ?_⟩
        rw [topI_max h1 h2]
        exact bk.val hr (.int _)
      · exact bk.elim
    · exact bk.elim
  | _ => exact bk.elim) (fun _ => rfl) (fun a b l h => by simp [dMaxL])
end
/-! the calculus -/
section
variable {Q : D → MH → Prop} {QI : List D × (MH → Bool) → MH → Prop} {E : XE} {ρ : Slots} {h : MH} {a b : ME}
theorem w_zipT (q : Sat (a ρ h) (fun x h1 => Sat (b ρ h1) (fun y h2 => Sat (zipT x y h2) QI E) E) E) : Sat (mZipT a b ρ h) QI E := Sat.bnd (q.monoE (fun _ _ z => Sat.bnd z) fun _ _ _ z => z)
theorem w_zipTK {l m : List D} (q : QI (zipD l m, yes) h) : Sat (zipT (.tup l) (.tup m) h) QI E := w_ok q
theorem allInt_map (l : List Int) : allInt (l.map D.int) = some l := by
  induction l with
  | nil => rfl
  | cons b l ih => simp [allInt, ih]
theorem w_sum {i : Nat} {l : List Int} (e : getL h i = some (l.map .int)) (q : Q (.int l.sum) h) : Sat (dSum [.ref i] h) Q E := w_eq (by simp only [dSum, e, Option.bind_some, allInt_map]) q
theorem w_maxL {i : Nat} {l : List Int} (e : getL h i = some (l.map .int)) (hl : 0 < l.length) (q : Q (.int (topI l)) h) : Sat (dMaxL [.ref i] h) Q E := w_eq (by simp only [dMaxL, e, Option.bind_some, allInt_map, if_pos hl]) q
end
end Mi

/-! Dicts with keys (in, get, put, displays of texts); classes of the program: fields, new ones, methods, isinstance; defaults. -/
namespace Mi
open PySem L2 PySem.Spec PyProof.Rows
/-! ### dicts -/
def valD (kvs : List (Key × D)) (k : Key) : Option D := (kvs.find? fun kv => decide (kv.1 = k)).map (·.2)
def putKD (kvs : List (Key × D)) (k : Key) (v : D) : List (Key × D) :=
  if (kvs.any fun kv => decide (kv.1 = k)) = true then kvs.map (fun kv => if kv.1 = k then (kv.1, v) else kv) else kvs ++ [(k, v)]
section
variable {g : G} {H : Hp} {μ : List Addr} {h : MH}
theorem KR.val (k : Key) : ∀ {kv : List (Key × V)} {kvs : List (Key × D)}, KR g H μ kv kvs → (valV kv k = none ∧ valD kvs k = none) ∨ ∃ v d, valV kv k = some v ∧ valD kvs k = some d ∧ VR g H μ v d
  | _, _, .nil => .inl ⟨rfl, rfl⟩
  | _, _, @KR.cons _ _ _ _ k' v d vs ds a b => by
    by_cases e : k' = k
    · refine .inr ⟨v, d, valV_pos e, ?_, a⟩
      simp [valD, List.find?_cons, e]
    · have e2 : valD ((k', d) :: ds) k = valD ds k := by simp [valD, List.find?_cons, e]
      rw [valV_neg (p := (k', v)) e, e2]
      exact KR.val k b
theorem KR.any (k : Key) : ∀ {kv : List (Key × V)} {kvs : List (Key × D)}, KR g H μ kv kvs → (kv.any fun p => decide (p.1 = k)) = kvs.any fun p => decide (p.1 = k)
  | _, _, .nil => rfl
  | _, _, .cons a b => by rw [List.any_cons, List.any_cons, KR.any k b]
theorem KR.repl (k : Key) {y : V} {u : D} (r : VR g H μ y u) : ∀ {kv : List (Key × V)} {kvs : List (Key × D)}, KR g H μ kv kvs → KR g H μ (kv.map fun p => if p.1 = k then (p.1, y) else p) (kvs.map fun p => if p.1 = k then (p.1, u) else p)
  | _, _, .nil => .nil
  | _, _, @KR.cons _ _ _ _ k' v d vs ds a b => by
    rw [List.map_cons, List.map_cons]
    by_cases e : k' = k
    · simp only [e, if_true]
      exact .cons r (KR.repl k r b)
    · simp only [e, if_false]
      exact .cons a (KR.repl k r b)
theorem KR.snoc {κ : Type} {k : κ} {y : V} {u : D} (r : VR g H μ y u) : ∀ {kv : List (κ × V)} {kvs : List (κ × D)}, KR g H μ kv kvs → KR g H μ (kv ++ [(k, y)]) (kvs ++ [(k, u)])
  | _, _, .nil => .cons r .nil
  | _, _, .cons a b => .cons a (KR.snoc r b)
theorem KR.put (k : Key) {y : V} {u : D} (r : VR g H μ y u) {kv : List (Key × V)} {kvs : List (Key × D)} (h : KR g H μ kv kvs) : KR g H μ (putK kv k y) (putKD kvs k u) := by
  unfold putK putKD
  rw [h.any k]
  split
  · exact h.repl k r
  · exact h.snoc r
theorem KR.len {κ : Type} : ∀ {kv : List (κ × V)} {kvs : List (κ × D)}, KR g H μ kv kvs → kv.length = kvs.length
  | _, _, .nil => rfl
  | _, _, .cons _ b => by rw [List.length_cons, List.length_cons, KR.len b]
def getK (h : MH) (x : D) : Option (List (Key × D)) := match x with
  | .ref i => match h[i]? with
    | some (.dK l) => some l
    | _ => none
  | _ => none
theorem getK_of {x : V} {d : D} {l : List (Key × D)} (hr : HR g H μ h) (vx : VR g H μ x d) (e : getK h d = some l) : ∃ i p kv, d = .ref i ∧ x = .ref p ∧ μ[i]? = some p ∧ h[i]? = some (.dK l) ∧ H p = some (.dK kv) ∧ KR g H μ kv l := by
  cases vx with
  | @ref p i hi =>
    simp only [getK] at e
    split at e
    · rename_i l' q
      cases e
      obtain ⟨kv, h1, h2⟩ := hr.ob _ _ _ hi q
      exact ⟨i, p, kv, rfl, rfl, hi, q, h1, h2⟩
    · cases e
  | _ => cases e
end
def dDIn (a b : D) (h : MH) : R D := match keyD a, getK h b with
  | some k, some l => .ok (.bl (valD l k).isSome) h
  | _, _ => .bad
def dDNotIn (a b : D) (h : MH) : R D := match keyD a, getK h b with
  | some k, some l => .ok (.bl (!(valD l k).isSome)) h
  | _, _ => .bad
def dDIx (a b : D) (h : MH) : R D := match getK h a, keyD b with
  | some l, some k => match valD l k with
    | some v => .ok v h
    | none => .bad
  | _, _ => .bad
def dDSet (x y d : D) (h : MH) : R Unit := match x, keyD y, getK h x with
  | .ref i, some k, some l => if l.length < 1000000 then .ok () (h.set i (.dK (putKD l k d))) else .bad
  | _, _, _ => .bad
def mDSet (o i e : ME) : MS := fun ρ h => (e ρ h).out ρ fun d h1 => (o ρ h1).out ρ fun x h2 => (i ρ h2).out ρ fun y h3 => (dDSet x y d h3).out ρ fun _ h4 => .nx ρ h4
def dDLen : List D → MH → R D
  | [x], h => match getK h x with
    | some l => .ok (.int l.length) h
    | none => .bad
  | _, _ => .bad
def rDIn : R2 := fun x y H Q => ∃ a k kvs, x = kV k ∧ y = .ref a ∧ H a = some (.dK kvs) ∧ Q (.bl (valV kvs k).isSome) H
def rDNotIn : R2 := fun x y H Q => ∃ a k kvs, x = kV k ∧ y = .ref a ∧ H a = some (.dK kvs) ∧ Q (.bl (!(valV kvs k).isSome)) H
def rSetD : V → V → V → Hp → (Hp → Prop) → Prop := fun o i v H Q => ∃ a k kvs, o = .ref a ∧ i = kV k ∧ H a = some (.dK kvs) ∧ kvs.length < sizeLine ∧ Q (upd H a (.dK (putK kvs k v)))
section
variable {X : Cx} {g : G} {W : WX}
theorem op_dIn (hu : X.A.units + 65 < cLine) : OpR X (compareOp .In) rDIn := fun pins s σ H x y v u Q I rx ry ⟨a, k, kvs, ex, ey, ea, q⟩ => by
  subst ex ey
  cases ry
  exact d_in (by omega) I (.k ea) rx fun s' I' => ⟨.bl _, H, I', rfl, q⟩
theorem op_dNotIn (hu : X.A.units + 65 < cLine) : OpR X (compareOp .NotIn) rDNotIn := fun pins s σ H x y v u Q I rx ry ⟨a, k, kvs, ex, ey, ea, q⟩ => by
  subst ex ey
  cases ry
  exact d_notIn (by omega) I (.k ea) rx fun s' I' => ⟨.bl _, H, I', rfl, q⟩
theorem set_dict (hu : X.A.units + 65 < cLine) : PSet X rSetD := fun pins s σ H o i v ov iv u Q I ro ri rv ⟨a, k, kvs, eo, ei, ea, hl, q⟩ => by
  subst eo ei
  cases ro
  exact d_setItem (by omega) I (.k ea hl) ri rv fun s' I' => ⟨_, I', q⟩
theorem val_some {H : Hp} {μ : List Addr} {kv : List (Key × V)} {l : List (Key × D)} (r : KR g H μ kv l) (k : Key) : (valV kv k).isSome = (valD l k).isSome := by
  rcases r.val k with ⟨e1, e2⟩ | ⟨v, d, e1, e2, _⟩ <;> rw [e1, e2] <;> rfl
theorem s2_dIn : S2 g rDIn dDIn := by
  intro H μ h x y a b Q W hr vx vy bk
  unfold dDIn at bk
  split at bk
  · rename_i k l e1 e2
    obtain ⟨i, p, kv, rfl, rfl, hi, q, hp, kr⟩ := getK_of hr vy e2
    exact ⟨p, k, kv, keyD_of vx e1, rfl, hp, by rw [val_some kr]; exact bk.val hr (.bl _)⟩
  · exact bk.elim
theorem s2_dNotIn : S2 g rDNotIn dDNotIn := by
  intro H μ h x y a b Q W hr vx vy bk
  unfold dDNotIn at bk
  split at bk
  · rename_i k l e1 e2
    obtain ⟨i, p, kv, rfl, rfl, hi, q, hp, kr⟩ := getK_of hr vy e2
    exact ⟨p, k, kv, keyD_of vx e1, rfl, hp, by rw [val_some kr]; exact bk.val hr (.bl _)⟩
  · exact bk.elim
variable {o i e : Expr} {mo mi me : ME} {pos p2 : Pos}
theorem se_dix (hu : X.A.units + 65 < cLine) (ho : PE X o (tE g W mo)) (hi : PE X i (tE g W mi)) (hs : NoSl i := by intro _ _; rfl) : PE X (.Subscript o i pos) (tE g W (mBin dDIx mo mi)) :=
  pe_mono (pe_dget (by omega) ho hi hs) fun σ H Q ⟨ρ, h, μ, sr, hr, bk⟩ =>
    step (rel := VR) (rel' := VR) (ma := mo) (Q' := Q) sr hr bk fun x a h1 H1 μ1 m1 sr1 hr1 vx bk1 => step (rel := VR) (rel' := VR) (ma := mi) (Q' := Q) sr1 hr1 bk1 fun y b h2 H2 μ2 m2 sr2 hr2 vy bk2 => by
      have vx := vx.mono m2
      unfold dDIx at bk2
      split at bk2
      · rename_i l k e1 e2
        obtain ⟨i, p, kv, rfl, rfl, hi, q, hp, kr⟩ := getK_of hr2 vx e1
        split at bk2
        · rename_i v ev
          rcases kr.val k with ⟨_, z⟩ | ⟨v', d, h1, h2, h3⟩
          · rw [ev] at z; cases z
          · rw [ev] at h2
            cases h2
            refine ⟨p, v', rfl, ?_, bk2.val hr2 h3⟩
            rw [keyD_of vy e2, ← h1]
            exact DGet.k hp
        · exact bk2.elim
      · exact bk2.elim
theorem sx_dset (hu : X.A.units + 65 < cLine) (ho : PE X o (tE g W mo)) (hi : PE X i (tE g W mi)) (he : PE X e (tE g W me))
    (ha : ∀ v, assign (.Subscript o i p2) X.env v = (do
      let ov ← holding [v] (eval o X.env)
      let iv ← holding [v, ov] (eval i X.env)
      standAt p2
      holding [v, ov, iv] (setItem ov iv v)
      release [v, ov, iv] []) := by intro _; rfl)
    (hs : swapsWithSole [.Subscript o i p2] e pos.line X.env = pure false := by rfl) (hw : swappedStores [.Subscript o i p2] e X.env = pure none := by rfl)
    (h1 : (assignEach [.Subscript o i p2] X.env).map (·.2) = [assign (.Subscript o i p2) X.env] := by rfl) : PS X (.Assign [.Subscript o i p2] e pos) (tS g W (mDSet mo mi me)) :=
  ps_mono (ps_asg he (pg_sub ho hi (set_dict hu) ha) hs hw h1) fun E σ H ⟨ρ, h, μ, sr, hr, bk⟩ =>
    stepS (rel := VR) (ma := me) (E := E) sr hr bk fun v d h1 H1 μ1 m1 sr1 hr1 vd bk1 => stepS (rel := VR) (ma := mo) (E := E) sr1 hr1 bk1 fun x a h2 H2 μ2 m2 sr2 hr2 vx bk2 => stepS (rel := VR) (ma := mi) (E := E) sr2 hr2 bk2 fun y b h3 H3 μ3 m3 sr3 hr3 vy bk3 => by
      have vx := vx.mono m3
      have vd := (vd.mono m2).mono m3
      unfold dDSet at bk3
      split at bk3
      · rename_i k l e1 _ e2
        obtain ⟨c', p, kv, ec, rfl, hi, q, hp, kr⟩ := getK_of hr3 vx e2
        cases ec
        split at bk3
        · rename_i hl
          refine ⟨p, k, kv, rfl, keyD_of vy e1, hp, by rw [kr.len]; exact sz6' hl, ?_⟩
          have m5 : Mon g H3 (upd H3 p (.dK (putK kv k v))) μ3 μ3 := (Saf.dK hp).mon
          exact bk3 _ _ μ3 m5 (sr3.mono m5) (hr3.write (u := .dK (putKD l k d)) hi q rfl (Saf.dK hp) rfl ⟨_, upd_same, (kr.put k vd).mono m5⟩)
        · exact bk3.elim
      · exact bk3.elim
end
/-! ### displays of texts -/
def mergeD (l : List (Str × Str)) (acc : List (Key × D)) : List (Key × D) := match l with
  | [] => acc
  | p :: r => mergeD r (putKD acc (.inr p.1) (.str p.2))
def mDictC (l : List (Str × Str)) : ME := fun _ h => .ok (.ref h.length) (h ++ [.dK (mergeD l [])])
section
variable {X : Cx} {g : G} {W : WX} {pos : Pos}
def trsC (g : G) (W : WX) (l : List (Str × Str)) : List (TE × TE) := l.map fun p => (tE g W (mC (.str p.1)), tE g W (mC (.str p.2)))
theorem pairs_C {σ : L2.St} {ρ : Slots} {h : MH} : ∀ (l : List (Str × Str)) {H : Hp} {μ : List Addr} {Q : List (V × V) → Hp → Prop}, SR g H μ σ ρ → HR g H μ h →
    (∀ H' μ', Mon g H H' μ μ' → HR g H' μ' h → Q (l.map fun p => (V.str p.1, V.str p.2)) H') → tPairs (trsC g W l) σ H Q
  | [], H, μ, Q, sr, hr, q => q H μ Mon.refl hr
  | p :: l, H, μ, Q, sr, hr, q => by
    refine ⟨ρ, h, μ, sr, hr, fun b H1 μ1 m1 hr1 vb => ?_⟩
    cases vb
    refine ⟨ρ, h, μ1, sr.mono m1, hr1, fun b H2 μ2 m2 hr2 vb => ?_⟩
    cases vb
    exact pairs_C l ((sr.mono m1).mono m2) hr2 fun H' μ' m' hr' => q H' μ' ((m1.trans m2).trans m') hr'
theorem KR.merge {H : Hp} {μ : List Addr} : ∀ (l : List (Str × Str)) {kv : List (Key × V)} {kvs : List (Key × D)}, KR g H μ kv kvs → KR g H μ (mergeK kv (l.map fun p => (Sum.inr p.1, V.str p.2))) (mergeD l kvs)
  | [], _, _, h => h
  | p :: l, _, _, h => KR.merge l (h.put (.inr p.1) (.str p.2))
theorem se_dictC {keys : List (Option Expr)} {values : List Expr} (l : List (Str × Str)) (h : PPs X pos keys values (trsC g W l)) (hl : l.length ≤ 15) (hall : keys.all (·.isSome) = true := by rfl) (hk : keys.length = values.length := by rfl) (h0 : keys ≠ [] := by simp) (h15 : keys.length ≤ 15 := by decide) :
    PE X (.Dict keys values pos) (tE g W (mDictC l)) :=
  pe_mono (pe_disp h hall hk h0 h15) fun σ H Q ⟨ρ, hh, μ, sr, hr, bk⟩ p hp => by
    have m0 : Mon g H (upd H p (.dK [])) μ (μ ++ [p]) := mon_push hp
    have hr0 : HR g (upd H p (.dK [])) (μ ++ [p]) (hh ++ [.dK []]) := hr.push (u := .dK []) hp ⟨[], upd_same, .nil⟩
    have i0 : (μ ++ [p])[hh.length]? = some p := ix_push hr.len
    refine pairs_C l (sr.mono m0) hr0 fun H2 μ2 m2 hr2 => ?_
    have i2 : μ2[hh.length]? = some p := m2.ix i0
    have e0 : (hh ++ [MO.dK []])[hh.length]? = some (.dK []) := by simp
    obtain ⟨kv, e1, e2⟩ := hr2.ob _ _ _ i2 e0
    cases e2
    refine ⟨e1, l.map fun p => (Sum.inr p.1, V.str p.2), ?_, by rw [List.length_map]; exact hl, ?_⟩
    · rw [List.map_map]; rfl
    · have m5 : Mon g H2 (upd H2 p (.dK (mergeK [] (l.map fun p => (Sum.inr p.1, V.str p.2))))) μ2 μ2 := (Saf.dK e1).mon
      have hw := hr2.write (u := .dK (mergeD l [])) i2 e0 rfl (Saf.dK e1) rfl (o := .dK (mergeK [] (l.map fun p => (Sum.inr p.1, V.str p.2)))) ⟨_, upd_same, KR.merge l .nil⟩
      have es : (hh ++ [MO.dK []]).set hh.length (.dK (mergeD l [])) = hh ++ [.dK (mergeD l [])] := by
        rw [List.set_append_right _ _ (Nat.le_refl _)]
        simp
      rw [es] at hw
      exact bk _ _ μ2 ((m0.trans m2).trans m5) hw (.ref i2)
end
/-! ### classes of the program -/
def insOf (h : MH) (x : D) : Option (Nat × Str × List (Str × D)) := match x with
  | .ref i => match h[i]? with
    | some (.ins c fs) => some (i, c, fs)
    | _ => none
  | _ => none
def putFD (f : Str) (v : D) : List (Str × D) → List (Str × D)
  | [] => [(f, v)]
  | (g, x) :: r => if g = f then (g, v) :: r else (g, x) :: putFD f v r
def mFld (cs : List Str) (f : Str) (a : ME) : ME := fun ρ h => (a ρ h).bind fun x h1 => match insOf h1 x with
  | some (_, c, fs) => if c ∈ cs then match fs.lookup f with
    | some v => .ok v h1
    | none => .bad else .bad
  | none => .bad
def mSetFld (cs : List Str) (f : Str) (o e : ME) : MS := fun ρ h => (e ρ h).out ρ fun d h1 => (o ρ h1).out ρ fun x h2 => match insOf h2 x with
  | some (i, c, fs) => if c ∈ cs ∧ fs.length < 1000 then .nx ρ (h2.set i (.ins c (putFD f d fs))) else .bad
  | none => .bad
def mNew (c : Str) (F : List D → MH → R D) (r : MA) : ME := fun ρ h => (r ρ h).bind fun xs h1 => (F (.ref h1.length :: xs) (h1 ++ [.ins c []])).bind fun y h2 => match y with
  | .non => .ok (.ref h1.length) h2
  | _ => .bad
abbrev MTab := List (Str × (List D → MH → R D))
def mMethI (m : Str) (tab : MTab) (o : ME) (r : MA) : ME := fun ρ h => (o ρ h).bind fun x h1 => match insOf h1 x with
  | some (_, c, fs) => match tab.lookup c with
    | some F => if fs.lookup m = none then (r ρ h1).bind fun xs h2 => F (x :: xs) h2 else .bad
    | none => .bad
  | none => .bad
def mIsC (tab : List (Str × Bool)) (a : ME) : ME := fun ρ h => (a ρ h).bind fun x h1 => match insOf h1 x with
  | some (_, c, _) => match tab.lookup c with
    | some b => .ok (.bl b) h1
    | none => .bad
  | none => .bad
section
variable {g : G} {H : Hp} {μ : List Addr} {h : MH}
theorem ins_of {x : V} {d : D} {i : Nat} {c : Str} {fs : List (Str × D)} (hr : HR g H μ h) (vx : VR g H μ x d) (e : insOf h d = some (i, c, fs)) :
    ∃ p C dx fv, d = .ref i ∧ x = .ref p ∧ μ[i]? = some p ∧ h[i]? = some (.ins c fs) ∧ H p = some (.ins C dx fv) ∧ g.cm c = some C ∧ KR g H μ fv fs := by
  cases vx with
  | @ref p j hi =>
    simp only [insOf] at e
    split at e
    · rename_i c' fs' q
      cases e
      obtain ⟨C, dx, fv, h1, h2, h3⟩ := hr.ob _ _ _ hi q
      exact ⟨p, C, dx, fv, rfl, rfl, hi, q, h1, h2, h3⟩
    · cases e
  | _ => cases e
theorem KR.lookup (f : Str) : ∀ {fv : List (Str × V)} {fs : List (Str × D)}, KR g H μ fv fs → (fv.lookup f = none ∧ fs.lookup f = none) ∨ ∃ v d, fv.lookup f = some v ∧ fs.lookup f = some d ∧ VR g H μ v d
  | _, _, .nil => .inl ⟨rfl, rfl⟩
  | _, _, @KR.cons _ _ _ _ k v d vs ds a b => by
    rw [List.lookup_cons, List.lookup_cons]
    cases (f == k) with
    | true => exact .inr ⟨v, d, rfl, rfl, a⟩
    | false => exact KR.lookup f b
theorem KR.putF (f : Str) {y : V} {u : D} (r : VR g H μ y u) : ∀ {fv : List (Str × V)} {fs : List (Str × D)}, KR g H μ fv fs → KR g H μ (L2.putF f y fv) (putFD f u fs)
  | _, _, .nil => .cons r .nil
  | _, _, @KR.cons _ _ _ _ k v d vs ds a b => by
    show KR g H μ (if k = f then (k, y) :: vs else (k, v) :: L2.putF f y vs) (if k = f then (k, u) :: ds else (k, d) :: putFD f u ds)
    split
    · exact .cons r b
    · exact .cons a (KR.putF f r b)
end
/-- classes with a field: none of their classes has its name -/
def CT (K : PySem.W.Frag) (f : Str) (cs : List Str) : Prop := ∀ c ∈ cs, ∀ C, cmOf K c = some C → Cls K C ∧ NoAttr K C f
def clsB (K : PySem.W.Frag) (C : Addr) : Bool := PySem.W.plainGet K C Str.empty && (PySem.W.hasDictIn K C && (PySem.W.plainOver K C && decide (PySem.W.findIn K (.ref C) "__setattr__" = some (some (.builtin "object.__setattr__")))))
theorem clsB_ok {K : PySem.W.Frag} {C : Addr} (h : clsB K C = true) : Cls K C := by
  unfold clsB at h
  simp only [Bool.and_eq_true, decide_eq_true_eq] at h
  exact ⟨h.1, h.2.1, h.2.2.1, h.2.2.2⟩
def ctB (K : PySem.W.Frag) (f : Str) (cs : List Str) : Bool := cs.all fun c => match cmOf K c with
  | some C => clsB K C && decide (PySem.W.findIn K (.ref C) f = some none)
  | none => false
theorem ctB_ok {K : PySem.W.Frag} {f : Str} {cs : List Str} (e : ctB K f cs = true) : CT K f cs := fun c hc C q => by
  have z := List.all_eq_true.mp e c hc
  rw [q] at z
  obtain ⟨z1, z2⟩ := Bool.and_eq_true_iff.mp z
  exact ⟨clsB_ok z1, show PySem.W.findIn K (.ref C) f = some none from of_decide_eq_true z2⟩
/-- isinstance of own classes -/
structure ClsI (K : PySem.W.Frag) (C : Addr) : Prop where
  cl : Cls K C
  ha : PySem.W.findIn K (.ref C) "__class__" = some (some (.builtin "object.__class__"))
  hn : PySem.W.specialIn K (.builtin "object.__class__") "__get__" = some (some (.builtin "getset_descriptor.__get__"))
  ht : PySem.W.takesIn K (.builtin "object.__class__") = some true
  hm : PySem.W.mroIn K C (.type "object") = some true
def clsIB (K : PySem.W.Frag) (C : Addr) : Bool := clsB K C && (decide (PySem.W.findIn K (.ref C) "__class__" = some (some (.builtin "object.__class__"))) &&
  (decide (PySem.W.specialIn K (.builtin "object.__class__") "__get__" = some (some (.builtin "getset_descriptor.__get__"))) && (decide (PySem.W.takesIn K (.builtin "object.__class__") = some true) && decide (PySem.W.mroIn K C (.type "object") = some true))))
theorem clsIB_ok {K : PySem.W.Frag} {C : Addr} (h : clsIB K C = true) : ClsI K C := by
  unfold clsIB at h
  simp only [Bool.and_eq_true, decide_eq_true_eq] at h
  exact ⟨clsB_ok h.1, h.2.1, h.2.2.1, h.2.2.2.1, h.2.2.2.2⟩
def IsC (K : PySem.W.Frag) (mg : Str → Option Value) (y : Str) (l : List (Str × Bool)) : Prop := ∃ D, mg y = some (.ref D) ∧ ∀ c b C, l.lookup c = some b → cmOf K c = some C → ClsI K C ∧ PySem.W.kitOne K (.ref C) (.ref D) = some b
def isCB (K : PySem.W.Frag) (y : Str) (l : List (Str × Bool)) : Bool := match cmOf K y with
  | some D => l.all fun p => match cmOf K p.1 with
    | some C => clsIB K C && (PySem.W.kitOne K (.ref C) (.ref D) == some p.2)
    | none => false
  | none => false
theorem isCB_ok {K : PySem.W.Frag} {h : Heap} {mg : Str → Option Value} {y : Str} {l : List (Str × Bool)} (X : K.In h) (G : h.Ns mainGlobals mg) (e : isCB K y l = true) : IsC K mg y l := by
  unfold isCB at e
  split at e
  · rename_i D q
    refine ⟨D, cm_mg X G q, fun c b C hl hC => ?_⟩
    have z := List.all_eq_true.mp e (c, b) (lookup_mem hl)
    simp only [hC] at z
    obtain ⟨z1, z2⟩ := Bool.and_eq_true_iff.mp z
    exact ⟨clsIB_ok z1, by simpa using z2⟩
  · cases e
/-- a method of a class -/
def MtOf (P : Program) (w : World) (K : PySem.W.Frag) (mg : Str → Option Value) (base : Heap) (c m : Str) (k : Nat) (F : List D → MH → R D) : Prop :=
  ∃ C f fd ps, cmOf K c = some C ∧ Cls K C ∧ Meth K C m f ∧ FnOk P w K mg base (L2.CX P w) k f fd ps (spM (gOf w K) F) ∧ Binds K fd ps []
def Mt (P : Program) (w : World) (K : PySem.W.Frag) (mg : Str → Option Value) (base : Heap) (m : Str) (k : Nat) (tab : MTab) : Prop := ∀ c F, tab.lookup c = some F → MtOf P w K mg base c m k F
/-- a class that is made -/
def MkOf (P : Program) (w : World) (K : PySem.W.Frag) (mg : Str → Option Value) (base : Heap) (c : Str) (k : Nat) (F : List D → MH → R D) : Prop :=
  ∃ C f fd ps, cmOf K c = some C ∧ mg c = some (.ref C) ∧ Mk K C f ∧ FnOk P w K mg base (L2.CX P w) k f fd ps (spM (gOf w K) F) ∧ Binds K fd ps []
section
variable {P : Program} {w : World} {K : PySem.W.Frag} {mg : Str → Option Value} {base : Heap} {m : Str} {k : Nat}
theorem mt_nil : Mt P w K mg base m k [] := fun _ _ h => by cases h
theorem mt_cons {c : Str} {F : List D → MH → R D} {tab : MTab} (e : MtOf P w K mg base c m k F) (r : Mt P w K mg base m k tab) : Mt P w K mg base m k ((c, F) :: tab) := fun c' F' h => by
  rw [List.lookup_cons] at h
  cases q : c' == c with
  | true =>
    rw [q] at h
    cases h
    rw [eq_of_beq q]
    exact e
  | false =>
    rw [q] at h
    exact r c' F' h
theorem MtOf.mono {c : Str} {F : List D → MH → R D} {j : Nat} (e : MtOf P w K mg base c m j F) (h : j ≤ k) : MtOf P w K mg base c m k F := by
  obtain ⟨C, f, fd, ps, h1, h2, h3, h4, h5⟩ := e
  exact ⟨C, f, fd, ps, h1, h2, h3, h4.mono h, h5⟩
theorem Mt.mono {tab : MTab} {j : Nat} (e : Mt P w K mg base m j tab) (h : j ≤ k) : Mt P w K mg base m k tab := fun c F q => (e c F q).mono h
end
section
variable {X : Cx} {W : WX} {a e o : Expr} {es : List Expr} {ma me mo : ME} {mr : MA} {p p2 pos apos : Pos} {f m : Str} {cs : List Str}
theorem se_fld (T : CT X.K f cs) (ha : PE X a (tE (gOf X.w X.K) W ma)) (hb : attributeBase a f X.env (eval a X.env) = eval a X.env := by rfl) : PE X (.Attribute a f pos) (tE (gOf X.w X.K) W (mFld cs f ma)) :=
  pe_mono (pe_fld ha hb) fun σ H Q ⟨ρ, h, μ, sr, hr, bk⟩ => step (rel := VR) (rel' := VR) (ma := ma) (Q' := Q) sr hr bk fun x d h1 H1 μ1 m1 sr1 hr1 vx bk1 => by
    split at bk1
    · rename_i i c fs e1
      obtain ⟨p, C, dx, fv, rfl, rfl, hi, q, hp, hC, kr⟩ := ins_of hr1 vx e1
      split at bk1
      · rename_i hc
        obtain ⟨c1, c2⟩ := T c hc C hC
        split at bk1
        · rename_i v ev
          rcases kr.lookup f with ⟨_, z⟩ | ⟨v', d', z1, z2, z3⟩
          · rw [ev] at z; cases z
          · rw [ev] at z2
            cases z2
            exact ⟨p, C, dx, fv, v', rfl, hp, c1, c2, z1, bk1.val hr1 z3⟩
        · exact bk1.elim
      · exact bk1.elim
    · exact bk1.elim
theorem sx_setFld (T : CT X.K f cs) (ho : PE X o (tE (gOf X.w X.K) W mo)) (he : PE X e (tE (gOf X.w X.K) W me)) (hs : swapsWith e (some (.Attribute o f p2)) pos.line X.env = pure false := by rfl) :
    PS X (.Assign [.Attribute o f p2] e pos) (tS (gOf X.w X.K) W (mSetFld cs f mo me)) :=
  ps_mono (ps_fld ho he hs) fun E σ H ⟨ρ, h, μ, sr, hr, bk⟩ =>
    stepS (rel := VR) (ma := me) (E := E) sr hr bk fun v d h1 H1 μ1 m1 sr1 hr1 vd bk1 => stepS (rel := VR) (ma := mo) (E := E) sr1 hr1 bk1 fun x a h2 H2 μ2 m2 sr2 hr2 vx bk2 => by
      have vd := vd.mono m2
      split at bk2
      · rename_i i c fs e1
        obtain ⟨p, C, dx, fv, rfl, rfl, hi, q, hp, hC, kr⟩ := ins_of hr2 vx e1
        split at bk2
        · rename_i hc
          obtain ⟨c1, c2⟩ := T c hc.1 C hC
          refine ⟨p, C, dx, fv, rfl, hp, c1, c2, by rw [kr.len]; exact hc.2, ?_⟩
          have m5 : Mon (gOf X.w X.K) H2 (upd H2 p (.ins C dx (L2.putF f v fv))) μ2 μ2 := (Saf.ins hp).mon
          exact bk2 _ _ μ2 m5 (sr2.mono m5) (hr2.write (u := .ins c (putFD f d fs)) hi q rfl (Saf.ins hp) rfl ⟨C, dx, _, upd_same, hC, (kr.putF f vd).mono m5⟩)
        · exact bk2.elim
      · exact bk2.elim
theorem run_makeS {CX : CXT} {k : Nat} {C f : Addr} {fd : FuncData} {ps : List Str} {sp : Sp} {E : XK} {pins : List (Addr × Obj)} {σ : L2.St} {H : Hp} {s : Shared} {Q : VK} {us : List Value} {vs : List V} (M : Mk X.K C f) (F : FnOk X.prog X.w X.K X.mg X.base CX k f fd ps sp)
    (hr : Room (k + 1) X.A) (hb : Binds X.K fd ps []) (hx : PassesAt CX X σ E) (I : Inv X pins σ H s) (r : Vals vs us)
    (h : ∀ x dx, H x = none → H dx = none → dx ≠ x → sp (.ref x :: vs) (upd (upd H dx (.own x)) x (.ins C dx [])) (fun v H2 => v = .non ∧ Q (.ref x) H2) E) :
    wpAny (model X.prog X.w) X.A (call (.ref C) us) (EP X pins σ Q) X.xe s := by
  have hq := h (s.heap.objs.size + 1) s.heap.objs.size (I.hok.fresh (Nat.le_succ _)) (I.hok.fresh (Nat.le_refl _)) (Nat.ne_of_lt (Nat.lt_succ_self _))
  have I2 := Inv.made (C := C) I
  have r2 : Vals (V.ref (s.heap.objs.size + 1) :: vs) (Value.ref (s.heap.objs.size + 1) :: us) := .cons rfl r
  have hl : (Value.ref (s.heap.objs.size + 1) :: us).length = ps.length := by
    have e := r2.length
    rw [F.len _ _ _ _ hq] at e
    exact e.symm
  have b := hb _ (Value.ref (s.heap.objs.size + 1) :: us) I2.kIn (by rw [List.append_nil]; exact hl)
  rw [List.append_nil] at b
  refine wpAny_call (make_map (f := f) I.kIn M.makes M.init (beq_iff_eq.mp M.fn) (codeAny_mono (F.run _ X.stack _ _ ⟨Value.ref (s.heap.objs.size + 1) :: us, []⟩ (Value.ref (s.heap.objs.size + 1) :: us) _ _ E (hr.make C us [])
    (I2.env0.make C us []) b r2 hq) fun r s' hq' => ?_))
  cases r with
  | error e => exact hx pins _ _ e s' I2 hq'
  | ok fl =>
    cases fl with
    | ret u =>
      obtain ⟨v, H', I3, rv, ev, q3⟩ := I2.after hq'
      subst ev
      exact ⟨rv, ⟨V.ref (s.heap.objs.size + 1), H', I3, rfl, q3⟩⟩
    | next => exact False.elim hq'
    | brk => exact False.elim hq'
    | cont => exact False.elim hq'
theorem new_of {g : G} {c : Str} {C : Addr} {F : List D → MH → R D} {H : Hp} {μ : List Addr} {h : MH} {vs : List V} {ds : List D} {Q : VK} {E : XK} (hC : g.cm c = some C) (hr : HR g H μ h) (vd : VRs g H μ vs ds)
    (bk : Bk (VR g) g H μ ((F (.ref h.length :: ds) (h ++ [.ins c []])).bind fun y h2 => match y with | .non => .ok (.ref h.length) h2 | _ => .bad) Q E) (x dx : Addr) (hx : H x = none) (hd : H dx = none) (ne : dx ≠ x) :
    spM g F (.ref x :: vs) (upd (upd H dx (.own x)) x (.ins C dx [])) (fun v H2 => v = .non ∧ Q (.ref x) H2) E := by
  have m1 : Mon g H (upd H dx (.own x)) μ μ := (Saf.fresh hd).mon
  have hr1 : HR g (upd H dx (.own x)) μ h := hr.laid hd
  have hx1 : (upd H dx (.own x)) x = none := by rw [upd_ne (Ne.symm ne)]; exact hx
  have m2 : Mon g (upd H dx (.own x)) (upd (upd H dx (.own x)) x (.ins C dx [])) μ (μ ++ [x]) := mon_push hx1
  have hr2 := hr1.push (u := .ins c []) hx1 (o := .ins C dx []) ⟨C, dx, [], upd_same, hC, .nil⟩
  have ix : (μ ++ [x])[h.length]? = some x := ix_push hr.len
  refine ⟨.ref h.length :: ds, h ++ [.ins c []], μ ++ [x], .cons (.ref ix) (vd.mono (m1.trans m2)), hr2, ?_⟩
  refine Bk.bind (Bk.mono (m1.trans m2) bk) fun y h3 v H3 μ3 _ m3 hr3 vy bk3 => ?_
  cases vy with
  | non => exact ⟨rfl, bk3.val hr3 (.ref (m3.ix ix))⟩
  | _ => exact bk3.elim
theorem se_new {c : Str} {k : Nat} {F : List D → MH → R D} (M : MkOf X.prog X.w X.K X.mg X.base c k F) (hr : Room (k + 1) X.A) (tk : Takes X W) (ha : PA X (e :: es) (tA (gOf X.w X.K) W mr)) (hg : Gl X c := by rfl) (hdb : (c == ("__debug__" : Str)) = false := by decide)
    (he : starEach (e :: es) X.env = (false, eval e X.env) :: starEach es X.env := by rfl) (hpl : (backTo pos (starEach es X.env)).any (·.1) = false := by rfl) : PE X (.Call (.Name c p) (e :: es) [] pos) (tE (gOf X.w X.K) W (mNew c F mr)) := by
  obtain ⟨C, f, fd, ps, hC, hm, M1, F1, b⟩ := M
  refine ⟨fun pins s σ H Q I h => ?_⟩
  refine wpAny_Call_Name_kw (ld_glob I hg hm ?_ hdb)
  obtain ⟨ρ, hh, μ, sr, hr', bk⟩ := h
  have st : tA (gOf X.w X.K) W mr σ H fun vs H1 => ∀ x dx, H1 x = none → H1 dx = none → dx ≠ x → spM (gOf X.w X.K) F (.ref x :: vs) (upd (upd H1 dx (.own x)) x (.ins C dx [])) (fun v H2 => v = .non ∧ Q (.ref x) H2) (WE W σ) :=
    step (rel := VRs) (rel' := VR) (ma := mr) (Q' := Q) sr hr' bk fun vs ds h1 H1 μ1 m1 sr1 hr1 vd bk1 => fun x dx hx hd ne => new_of hC hr1 vd bk1 x dx hx hd ne
  refine PySem.W.callWith_K (h₀ := X.base) I.ok.mod.kin M1.kp (thn (ha.run pos pins s σ H _ I st) fun us s1 ⟨vs, H1, I1, r, q⟩ => ⟨I1.kIn, ?_⟩) he hpl
  exact run_makeS M1 F1 hr b (passAt tk σ) I1 r q
theorem se_new0 {c : Str} {k : Nat} {F : List D → MH → R D} (M : MkOf X.prog X.w X.K X.mg X.base c k F) (hr : Room (k + 1) X.A) (tk : Takes X W) (hg : Gl X c := by rfl) (hdb : (c == ("__debug__" : Str)) = false := by decide) :
    PE X (.Call (.Name c p) [] [] pos) (tE (gOf X.w X.K) W (mNew c F mNil)) := by
  obtain ⟨C, f, fd, ps, hC, hm, M1, F1, b⟩ := M
  refine ⟨fun pins s σ H Q I h => ?_⟩
  refine wpAny_Call_Name_kw (ld_glob I hg hm ?_ hdb)
  obtain ⟨ρ, hh, μ, sr, hr', bk⟩ := h
  exact PySem.W.callWith_K0 I.kIn M1.kp (run_makeS (us := []) (vs := []) M1 F1 hr b (passAt tk σ) I .nil fun x dx hx hd ne => new_of hC hr' .nil bk x dx hx hd ne)
theorem se_meth {k : Nat} {tab : MTab} {pl : Sem Bool} (M : Mt X.prog X.w X.K X.mg X.base m k tab) (hr : Room k X.A) (tk : Takes X W) (ho : PE X o (tE (gOf X.w X.K) W mo)) (ha : PA X (e :: es) (tA (gOf X.w X.K) W mr))
    (hst : starEach (e :: es) X.env = (false, eval e X.env) :: starEach es X.env := by rfl) (hpl : (backTo pos (starEach es X.env)).any (·.1) = false := by rfl)
    (ht : eval (.Call (.Attribute o m apos) (e :: es) [] pos) X.env = (do
      let ov ← eval o X.env
      standAt apos.atName
      let (f, first) ← holding [ov] (getMethod ov m pl)
      callWith pos f first (backTo pos (starEach (e :: es) X.env)) (backToKw pos (keywordEach [] X.env))) := by rfl) :
    PE X (.Call (.Attribute o m apos) (e :: es) [] pos) (tE (gOf X.w X.K) W (mMethI m tab mo mr)) := by
  refine ⟨fun pins s σ H Q I ⟨ρ, h, μ, sr, hr', bk⟩ => ?_⟩
  have st : tE (gOf X.w X.K) W mo σ H fun x H1 => ∃ a C dx fv f fd ps F, x = .ref a ∧ H1 a = some (.ins C dx fv) ∧ Cls X.K C ∧ Meth X.K C m f ∧ FnOk X.prog X.w X.K X.mg X.base (L2.CX X.prog X.w) k f fd ps (spM (gOf X.w X.K) F) ∧ Binds X.K fd ps [] ∧ fv.lookup m = none ∧
      tA (gOf X.w X.K) W mr σ H1 fun vs H2 => spM (gOf X.w X.K) F (.ref a :: vs) H2 Q (WE W σ) :=
    step (rel := VR) (rel' := VR) (ma := mo) (Q' := Q) sr hr' bk fun x d h1 H1 μ1 m1 sr1 hr1 vx bk1 => by
      split at bk1
      · rename_i i c fs e1
        obtain ⟨a, C, dx, fv, rfl, rfl, hi, q, hp, hC, kr⟩ := ins_of hr1 vx e1
        split at bk1
        · rename_i F eF
          obtain ⟨C', f, fd, ps, hC', h2, h3, h4, h5⟩ := M c F eF
          have hC'' : cmOf X.K c = some C := hC
          rw [hC''] at hC'
          cases hC'
          split at bk1
          · rename_i hl
            refine ⟨a, C, dx, fv, f, fd, ps, F, rfl, hp, h2, h3, h4, h5, ?_, ?_⟩
            · rcases kr.lookup m with ⟨z, _⟩ | ⟨_, _, _, z, _⟩
              · exact z
              · rw [hl] at z; cases z
            · exact step (rel := VRs) (rel' := VR) (ma := mr) (Q' := Q) sr1 hr1 bk1 fun vs ds h2 H2 μ2 m2 sr2 hr2 vd bk2 => ⟨_, h2, μ2, .cons (.ref (m2.ix hi)) vd, hr2, bk2⟩
          · exact bk1.elim
        · exact bk1.elim
      · exact bk1.elim
  refine PySem.W.methodCall_KW (pl := pl) (thn (ho.run pins s σ H _ I st) fun u s1 ⟨x, H1, I1, rx, a, C, dx, fv, f, fd, ps, F, ex, ea, c, hm, F1, b, l, q⟩ => ?_) ht
  subst ex
  obtain rfl : u = Value.ref a := rx
  refine getmeth_ok I1 ea c hm l ?_
  refine PySem.W.callWith_K (first := [.ref a]) (h₀ := X.base) I.ok.mod.kin hm.kp (thn (ha.run pos pins s1 σ H1 _ I1 q) fun us s2 ⟨vs, H2, I2, r, q2⟩ => ⟨I2.kIn, ?_⟩) hst hpl
  exact run_fnS (E := WE W) (us := .ref a :: us) (vs := .ref a :: vs) F1 hr b (passAt tk σ) I2 (.cons rfl r) q2
theorem se_meth0 {k : Nat} {tab : MTab} {pl : Sem Bool} (M : Mt X.prog X.w X.K X.mg X.base m k tab) (hr : Room k X.A) (tk : Takes X W) (ho : PE X o (tE (gOf X.w X.K) W mo))
    (ht : eval (.Call (.Attribute o m apos) [] [] pos) X.env = (do
      let ov ← eval o X.env
      standAt apos.atName
      let (f, first) ← holding [ov] (getMethod ov m pl)
      callWith pos f first (backTo pos (starEach [] X.env)) (backToKw pos (keywordEach [] X.env))) := by rfl) :
    PE X (.Call (.Attribute o m apos) [] [] pos) (tE (gOf X.w X.K) W (mMethI m tab mo mNil)) := by
  refine ⟨fun pins s σ H Q I ⟨ρ, h, μ, sr, hr', bk⟩ => ?_⟩
  have st : tE (gOf X.w X.K) W mo σ H fun x H1 => ∃ a C dx fv f fd ps F, x = .ref a ∧ H1 a = some (.ins C dx fv) ∧ Cls X.K C ∧ Meth X.K C m f ∧ FnOk X.prog X.w X.K X.mg X.base (L2.CX X.prog X.w) k f fd ps (spM (gOf X.w X.K) F) ∧ Binds X.K fd ps [] ∧ fv.lookup m = none ∧
      spM (gOf X.w X.K) F [.ref a] H1 Q (WE W σ) :=
    step (rel := VR) (rel' := VR) (ma := mo) (Q' := Q) sr hr' bk fun x d h1 H1 μ1 m1 sr1 hr1 vx bk1 => by
      split at bk1
      · rename_i i c fs e1
        obtain ⟨a, C, dx, fv, rfl, rfl, hi, q, hp, hC, kr⟩ := ins_of hr1 vx e1
        split at bk1
        · rename_i F eF
          obtain ⟨C', f, fd, ps, hC', h2, h3, h4, h5⟩ := M c F eF
          have hC'' : cmOf X.K c = some C := hC
          rw [hC''] at hC'
          cases hC'
          split at bk1
          · rename_i hl
            refine ⟨a, C, dx, fv, f, fd, ps, F, rfl, hp, h2, h3, h4, h5, ?_, ?_⟩
            · rcases kr.lookup m with ⟨z, _⟩ | ⟨_, _, _, z, _⟩
              · exact z
              · rw [hl] at z; cases z
            · exact ⟨_, h1, μ1, .cons (.ref hi) .nil, hr1, bk1⟩
          · exact bk1.elim
        · exact bk1.elim
      · exact bk1.elim
  refine PySem.W.methodCall_KW (pl := pl) (thn (ho.run pins s σ H _ I st) fun u s1 ⟨x, H1, I1, rx, a, C, dx, fv, f, fd, ps, F, ex, ea, c, hm, F1, b, l, q⟩ => ?_) ht
  subst ex
  obtain rfl : u = Value.ref a := rx
  refine getmeth_ok I1 ea c hm l ?_
  exact PySem.W.callWith_K0 (first := [.ref a]) I1.kIn hm.kp (run_fnS (E := WE W) (us := [.ref a]) (vs := [.ref a]) F1 hr b (passAt tk σ) I1 (.cons rfl .nil) q)
theorem se_isC {y : Str} {tab : List (Str × Bool)} (T : IsC X.K X.mg y tab) (ha : PE X a (tE (gOf X.w X.K) W ma)) (hm : X.mg "isinstance" = none) (hgy : Gl X y := by rfl) (hdy : (y == ("__debug__" : Str)) = false := by decide) (hg : Gl X "isinstance" := by rfl)
    (s1 : starEach [a, .Name y p2] X.env = (false, eval a X.env) :: starEach [.Name y p2] X.env := by rfl) (s2 : starEach [.Name y p2] X.env = (false, eval (.Name y p2) X.env) :: starEach [] X.env := by rfl)
    (hpl : (backTo pos (starEach [.Name y p2] X.env)).any (·.1) = false := by rfl) : PE X (.Call (.Name "isinstance" p) [a, .Name y p2] [] pos) (tE (gOf X.w X.K) W (mIsC tab ma)) := by
  obtain ⟨D, hD, hT⟩ := T
  exact pe_mono (pe_callB call_isi hg hm (by decide +kernel) (pa_cons ha (pa_cons (pe_glob (v := .ref D) hgy hD rfl hdy) pa_nil s2) s1) (by decide) (by decide) s1 hpl) fun σ H Q ⟨ρ, h, μ, sr, hr, bk⟩ =>
    step (rel := VR) (rel' := VR) (ma := ma) (Q' := Q) sr hr bk fun x d h1 H1 μ1 m1 sr1 hr1 vx bk1 => by
      split at bk1
      · rename_i i c fs e1
        obtain ⟨a, C, dx, fv, rfl, rfl, hi, q, hp, hC, kr⟩ := ins_of hr1 vx e1
        split at bk1
        · rename_i b eb
          obtain ⟨t1, t2⟩ := hT c b C eb hC
          exact ⟨.ref a, .ref D, .ref C, .ref D, b, rfl, .own D, .base (.ins hp t1.cl t1.ha t1.hn t1.ht t1.hm), t2, bk1.val hr1 (.bl b)⟩
        · exact bk1.elim
      · exact bk1.elim
end
end Mi

/-! Defs of classes by their texts; defs with defaults. -/
namespace Mi
open PySem L2 PySem.Spec PyProof.Rows
/-- a method as it stands -/
def Dm (K : PySem.W.Frag) (c m qual : Str) (st : Stmt) (ps : List Str) : Prop := ∃ C f fd, cmOf K c = some C ∧ Cls K C ∧ Meth K C m f ∧ Fun K m qual st f fd ∧ Binds K fd ps []
/-- an __init__ as it stands -/
def Di (K : PySem.W.Frag) (mg : Str → Option Value) (c qual : Str) (st : Stmt) (ps : List Str) : Prop := ∃ C f fd, cmOf K c = some C ∧ mg c = some (.ref C) ∧ Mk K C f ∧ Fun K "__init__" qual st f fd ∧ Binds K fd ps []
section
variable {P : Program} {w : World} {K : PySem.W.Frag} {mg : Str → Option Value} {base : Heap} {h : Heap}
theorem dm_mk {c m qual : Str} {st : Stmt} {ps : List Str} {C f : Addr} {oc : Value} {od an : Option Addr} {osl : Array (Option Value)} {kV doc pm cdv ct : Value}
    (a : PySem.W.nsIn K mainGlobals c = some (some (.ref C))) (hc : clsB K C = true) (hf : PySem.W.findIn K (.ref C) m = some (some (.ref f))) (hn : PySem.W.isFn K (.ref f) = true)
    (l : K.lookup f = some ⟨oc, od, .func (PySem.W.fnOf m qual (defArgs st) (defBody st) (defScope st) .none kV doc pm an cdv ct), osl⟩)
    (e : PySem.W.codeIn K cdv qual = true) (k : PySem.W.keepIn K (.ref f) = true)
    (hb : ∀ (kV doc pm : Value) (an : Option Addr) (cdv ct : Value) (us : List Value), us.length = ps.length → bindArgs (PySem.W.fnOf m qual (defArgs st) (defBody st) (defScope st) .none kV doc pm an cdv ct) ⟨us, []⟩ = pure (ps.zip us)) : Dm K c m qual st ps := by
  have F := fun_mk (st := st) l e k
  exact ⟨C, f, _, by unfold cmOf; rw [a], clsB_ok hc, ⟨hf, hn, k⟩, F, F.binds hb⟩
theorem di_mk {c qual : Str} {st : Stmt} {ps : List Str} {C f : Addr} {oc : Value} {od an : Option Addr} {osl : Array (Option Value)} {kV doc pm cdv ct : Value} (X : K.In h) (G : h.Ns mainGlobals mg)
    (a : PySem.W.nsIn K mainGlobals c = some (some (.ref C))) (hm : PySem.W.makesIn K C = true) (hf : PySem.W.findIn K (.ref C) "__init__" = some (some (.ref f))) (hn : PySem.W.isFn K (.ref f) = true) (hk : PySem.W.keepIn K (.ref C) = true)
    (l : K.lookup f = some ⟨oc, od, .func (PySem.W.fnOf "__init__" qual (defArgs st) (defBody st) (defScope st) .none kV doc pm an cdv ct), osl⟩)
    (e : PySem.W.codeIn K cdv qual = true) (k : PySem.W.keepIn K (.ref f) = true)
    (hb : ∀ (kV doc pm : Value) (an : Option Addr) (cdv ct : Value) (us : List Value), us.length = ps.length → bindArgs (PySem.W.fnOf "__init__" qual (defArgs st) (defBody st) (defScope st) .none kV doc pm an cdv ct) ⟨us, []⟩ = pure (ps.zip us)) : Di K mg c qual st ps := by
  have F := fun_mk (st := st) l e k
  exact ⟨C, f, _, by unfold cmOf; rw [a], PySem.W.mg_of X G a, ⟨hm, hf, hn, hk⟩, F, F.binds hb⟩
theorem mtof_mk {c m qual : Str} {st : Stmt} {N ps : List Str} {k : Nat} {body : MS} (d : Dm K c m qual st ps) (S : FnScope N ps (defScope st))
    (hb : ∀ (f : Addr) (cdv : Value) (A : Around) (outer : List Env) (s : Shared) (H : Hp) (E : XK), Room k (A.deeper (PyProof.Rows.envOfC qual (defScope st) s.heap.objs.size f cdv)) →
      PSs (cxOf (L2.CX P w) P w K mg base N qual (defScope st) f cdv A outer s H E) (defBody st) (tS (gOf w K) (fun c d _ H' => E c d H') body)) : MtOf P w K mg base c m (k + 1) (mFun ps.length N.length body) := by
  obtain ⟨C, f, fd, h1, h2, h3, F, b⟩ := d
  exact ⟨C, f, fd, ps, h1, h2, h3, fn_mk F S (hb f), b⟩
theorem mkof_mk {c qual : Str} {st : Stmt} {N ps : List Str} {k : Nat} {body : MS} (d : Di K mg c qual st ps) (S : FnScope N ps (defScope st))
    (hb : ∀ (f : Addr) (cdv : Value) (A : Around) (outer : List Env) (s : Shared) (H : Hp) (E : XK), Room k (A.deeper (PyProof.Rows.envOfC qual (defScope st) s.heap.objs.size f cdv)) →
      PSs (cxOf (L2.CX P w) P w K mg base N qual (defScope st) f cdv A outer s H E) (defBody st) (tS (gOf w K) (fun c d _ H' => E c d H') body)) : MkOf P w K mg base c (k + 1) (mFun ps.length N.length body) := by
  obtain ⟨C, f, fd, h1, h2, h3, F, b⟩ := d
  exact ⟨C, f, fd, ps, h1, h2, h3, fn_mk F S (hb f), b⟩
theorem MkOf.mono {c : Str} {F : List D → MH → R D} {j k : Nat} (e : MkOf P w K mg base c j F) (h : j ≤ k) : MkOf P w K mg base c k F := by
  obtain ⟨C, f, fd, ps, h1, h2, h3, h4, h5⟩ := e
  exact ⟨C, f, fd, ps, h1, h2, h3, h4.mono h, h5⟩
end
section
variable {P : Program} {w : World} {K : PySem.W.Frag} {mg : Str → Option Value} {base : Heap}
theorem mtof_none {c m qual : Str} {st : Stmt} {ps : List Str} {k : Nat} {F : List D → MH → R D} (d : Dm K c m qual st ps) (hF : ∀ ds h, F ds h = .bad) : MtOf P w K mg base c m k F := by
  obtain ⟨C, f, fd, h1, h2, h3, _, b⟩ := d
  exact ⟨C, f, fd, ps, h1, h2, h3, fn_none hF, b⟩
theorem mkof_none {c qual : Str} {st : Stmt} {ps : List Str} {k : Nat} {F : List D → MH → R D} (d : Di K mg c qual st ps) (hF : ∀ ds h, F ds h = .bad) : MkOf P w K mg base c k F := by
  obtain ⟨C, f, fd, h1, h2, h3, _, b⟩ := d
  exact ⟨C, f, fd, ps, h1, h2, h3, fn_none hF, b⟩
end
/-! ### defaults -/
def vOf : D → V
  | .non => .non | .bl b => .bl b | .int i => .int i | .str x => .str x | _ => .non
theorem vOf_rel {g : G} {H : Hp} {μ : List Addr} : ∀ {ds : List D}, ds.all flatD = true → VRs g H μ (ds.map vOf) ds
  | [], _ => .nil
  | d :: ds, h => by
    obtain ⟨h1, h2⟩ := Bool.and_eq_true_iff.mp (by simpa using h : (flatD d && ds.all flatD) = true)
    refine .cons ?_ (vOf_rel h2)
    cases d with
    | non => exact .non
    | bl b => exact .bl b
    | int i => exact .int i
    | str x => exact .str x
    | _ => cases h1
def DfD (K : PySem.W.Frag) (mg : Str → Option Value) (x : Str) (st : Stmt) (ps : List Str) (ds : List D) : Prop := ∃ f fd, FunD K x x (defArgs st) (defBody st) (defScope st) (ds.map vOf) [] f fd ∧ mg x = some (.ref f) ∧ ∀ j, j ≤ ds.length → ∃ uds, Vals ((ds.map vOf).drop j) uds ∧ Binds K fd ps uds
def CalD (P : Program) (w : World) (K : PySem.W.Frag) (mg : Str → Option Value) (base : Heap) (x : Str) (k : Nat) (F : List D → MH → R D) (ds : List D) : Prop :=
  ∃ f fd ps, FnOk P w K mg base (L2.CX P w) k f fd ps (spM (gOf w K) F) ∧ mg x = some (.ref f) ∧ PySem.W.keepIn K (.ref f) = true ∧ ∀ j, j ≤ ds.length → ∃ uds, Vals ((ds.map vOf).drop j) uds ∧ Binds K fd ps uds
def mCallD (F : List D → MH → R D) (ds : List D) (r : MA) : ME := fun ρ h => (r ρ h).bind fun xs h1 => F (xs ++ ds) h1
section
variable {P : Program} {w : World} {K : PySem.W.Frag} {mg : Str → Option Value} {base : Heap}
theorem dfd_mk {h : Heap} {x : Str} {st : Stmt} {ps : List Str} {ds : List D} {f T : Addr} {oc : Value} {od an : Option Addr} {osl : Array (Option Value)} {kV doc pm cdv ct : Value} {oT : Obj} {its : List Value} {nT : Nat} (X : K.In h) (G : h.Ns mainGlobals mg)
    (a : PySem.W.nsIn K mainGlobals x = some (some (.ref f))) (l : K.lookup f = some ⟨oc, od, .func (PySem.W.fnOf x x (defArgs st) (defBody st) (defScope st) (.ref T) kV doc pm an cdv ct), osl⟩)
    (lT : K.lookup T = some oT) (dT : oT.data = .seq its.toArray nT) (vT : Vals (ds.map vOf) its) (hne : ds ≠ [])
    (c : PySem.W.codeIn K cdv x = true) (k : PySem.W.keepIn K (.ref f) = true)
    (hb : ∀ (fd : FuncData), FunD K x x (defArgs st) (defBody st) (defScope st) (ds.map vOf) [] f fd → ∀ j, j ≤ ds.length → ∃ uds, Vals ((ds.map vOf).drop j) uds ∧ Binds K fd ps uds) : DfD K mg x st ps ds := by
  have F : FunD K x x (defArgs st) (defBody st) (defScope st) (ds.map vOf) [] f (PySem.W.fnOf x x (defArgs st) (defBody st) (defScope st) (.ref T) kV doc pm an cdv ct) :=
    ⟨⟨oc, od, .ref T, kV, doc, pm, an, cdv, ct, osl, rfl, l, c, .inr ⟨by simpa using hne, T, oT, its, nT, rfl, lT, dT, vT⟩, .inl rfl⟩, k⟩
  exact ⟨f, _, F, PySem.W.mg_of X G a, hb _ F⟩
theorem cald_mk {x : Str} {st : Stmt} {N ps : List Str} {ds : List D} {k : Nat} {body : MS} (d : DfD K mg x st ps ds) (S : FnScope N ps (defScope st))
    (hb : ∀ (f : Addr) (cdv : Value) (A : Around) (outer : List Env) (s : Shared) (H : Hp) (E : XK), Room k (A.deeper (PyProof.Rows.envOfC x (defScope st) s.heap.objs.size f cdv)) →
      PSs (cxOf (L2.CX P w) P w K mg base N x (defScope st) f cdv A outer s H E) (defBody st) (tS (gOf w K) (fun c d _ H' => E c d H') body)) : CalD P w K mg base x (k + 1) (mFun ps.length N.length body) ds := by
  obtain ⟨f, fd, F, m, b⟩ := d
  exact ⟨f, fd, ps, F.ok S (fun vs H Q E h => spM_len h) fun cdv A outer s H vs Q E hr h => ⟨_, hb f cdv A outer s H E hr, spM_run h⟩, m, F.kp, b⟩
theorem cald_none {x : Str} {st : Stmt} {ps : List Str} {ds : List D} {k : Nat} {F : List D → MH → R D} (d : DfD K mg x st ps ds) (hF : ∀ ds h, F ds h = .bad) : CalD P w K mg base x k F ds := by
  obtain ⟨f, fd, F1, m, b⟩ := d
  exact ⟨f, fd, ps, fn_none hF, m, F1.kp, b⟩
end
section
variable {X : Cx} {W : WX} {e : Expr} {es : List Expr} {mr : MA} {p pos : Pos}
theorem se_callD {x : Str} {k : Nat} {F : List D → MH → R D} {ds : List D} (j : Nat) (hj : j ≤ ds.length) (hf : (ds.drop j).all flatD = true) (c : CalD X.prog X.w X.K X.mg X.base x k F ds) (hr : Room k X.A) (tk : Takes X W) (ha : PA X (e :: es) (tA (gOf X.w X.K) W mr)) (hg : Gl X x := by rfl) (hdb : (x == ("__debug__" : Str)) = false := by decide)
    (he : starEach (e :: es) X.env = (false, eval e X.env) :: starEach es X.env := by rfl) (hpl : (backTo pos (starEach es X.env)).any (·.1) = false := by rfl) : PE X (.Call (.Name x p) (e :: es) [] pos) (tE (gOf X.w X.K) W (mCallD F (ds.drop j) mr)) := by
  obtain ⟨f, fd, ps, F1, m, kp, b⟩ := c
  obtain ⟨uds, v, b⟩ := b j hj
  exact pe_mono (pe_callSD (E := WE W) F1 hr hg m kp b v (fun σ => passAt tk σ) ha hdb he hpl) fun σ H Q ⟨ρ, h, μ, sr, hr, bk⟩ => step (rel := VRs) (rel' := VR) (ma := mr) (Q' := Q) sr hr bk fun xs ds' h1 H1 μ1 m1 sr1 hr1 vs bk1 => ⟨_, h1, μ1, vs.append (by rw [← List.map_drop]; exact vOf_rel hf), hr1, bk1⟩
end
end Mi

/-! The calculus for classes, dicts, defaults; cells of one's own of any kind. -/
namespace Mi
open PySem L2
/-! ### cells of any kind -/
abbrev CL := List (Nat × MO)
structure Cel (h0 h : MH) (L : CL) : Prop where
  pre : h0 <+: h
  cell : ∀ p ∈ L, h0.length ≤ p.1 ∧ h[p.1]? = some p.2
  nd : (L.map (·.1)).Nodup
section
variable {h0 h h' h1 : MH} {L M : CL} {i : Nat} {l l' : MO}
theorem Cel.nil (h : MH) : Cel h h [] := ⟨List.prefix_rfl, fun p hp => by simp at hp, List.nodup_nil⟩
theorem Cel.ext (o : Cel h0 h L) (p : h <+: h') : Cel h0 h' L := ⟨o.pre.trans p, fun q hq => ⟨(o.cell q hq).1, pre_get p (o.cell q hq).2⟩, o.nd⟩
theorem Cel.lt (o : Cel h0 h L) {p : Nat × MO} (hp : p ∈ L) : p.1 < h.length := (List.getElem?_eq_some_iff.mp (o.cell p hp).2).1
theorem Cel.add (o : Cel h0 h L) (hi : h0.length ≤ i) (e : h[i]? = some l) (n : ∀ p ∈ L, p.1 ≠ i) : Cel h0 h ((i, l) :: L) :=
  ⟨o.pre, fun q hq => by
    rcases List.mem_cons.mp hq with rfl | hq
    · exact ⟨hi, e⟩
    · exact o.cell q hq, List.nodup_cons.mpr ⟨fun hm => by
      obtain ⟨p, hp, rfl⟩ := List.mem_map.mp hm
      exact n p hp rfl, o.nd⟩⟩
theorem Cel.alloc (o : Cel h0 h L) (x : MO) : Cel h0 (h ++ [x]) ((h.length, x) :: L) :=
  (o.ext (List.prefix_append _ _)).add (o.pre.length_le) (by simp) fun p hp => Nat.ne_of_lt (o.lt hp)
theorem Cel.at (o : Cel h0 h L) (n : Nat) (e : L[n]? = some (i, l)) : h[i]? = some l := (o.cell _ (List.mem_of_getElem? e)).2
theorem Cel.atL {l : List D} (o : Cel h0 h L) (n : Nat) (e : L[n]? = some (i, .lst l)) : getL h i = some l := getL_of (o.at n e)
theorem Cel.isL {l : List D} (o : Cel h0 h L) (n : Nat) (e : L[n]? = some (i, .lst l)) : isListD (.ref i) h = true := by rw [isListD_ref, o.atL n e]; rfl
theorem Cel.setAt (o : Cel h0 h L) (n : Nat) (e : L[n]? = some (i, l)) (l' : MO) : Cel h0 (h.set i l') (L.set n (i, l')) := by
  have hn : n < L.length := (List.getElem?_eq_some_iff.mp e).1
  have en : L[n] = (i, l) := (List.getElem?_eq_some_iff.mp e).2
  have hi : i < h.length := o.lt (List.mem_of_getElem? e)
  have h0i : h0.length ≤ i := (o.cell _ (List.mem_of_getElem? e)).1
  have em : (L.set n (i, l')).map (·.1) = L.map (·.1) := by
    rw [List.map_set]
    refine List.ext_getElem (by simp) fun k h1 h2 => ?_
    rw [List.getElem_set]
    split
    · rename_i q
      subst q
      rw [List.getElem_map, en]
    · rfl
  refine ⟨?_, fun q hq => ?_, by rw [em]; exact o.nd⟩
  · obtain ⟨t, rfl⟩ := o.pre
    rw [List.set_append_right _ _ h0i]
    exact List.prefix_append _ _
  · obtain ⟨k, hk, e2⟩ := List.mem_iff_getElem.mp hq
    rw [List.getElem_set] at e2
    split at e2
    · subst e2
      exact ⟨h0i, by simp [hi]⟩
    · rename_i hne
      have hk' : k < L.length := by simpa using hk
      have hm : q ∈ L := e2 ▸ List.getElem_mem hk'
      refine ⟨(o.cell q hm).1, ?_⟩
      rw [List.getElem?_set_ne]
      · exact (o.cell q hm).2
      · intro z
        have h1 : (L.map (·.1))[n]'(by simpa using hn) = (L.map (·.1))[k]'(by simpa using hk') := by
          rw [List.getElem_map, List.getElem_map, en, e2]
          exact z
        exact hne ((List.getElem_inj o.nd).mp h1)
theorem Cel.trans (o : Cel h0 h L) (o' : Cel h h' M) : Cel h0 h' (M ++ L) := by
  have o2 := o.ext o'.pre
  refine ⟨o2.pre, fun q hq => ?_, ?_⟩
  · rcases List.mem_append.mp hq with hq | hq
    · exact ⟨Nat.le_trans o.pre.length_le (o'.cell q hq).1, (o'.cell q hq).2⟩
    · exact o2.cell q hq
  · rw [List.map_append, List.nodup_append]
    refine ⟨o'.nd, o.nd, fun a ha b hb => ?_⟩
    obtain ⟨p, hp, rfl⟩ := List.mem_map.mp ha
    obtain ⟨q, hq, rfl⟩ := List.mem_map.mp hb
    have h1 := (o'.cell p hp).1
    have h2 := o.lt hq
    omega
theorem Cel.sub (o : Cel h0 h L) (s : M.Sublist L) : Cel h0 h M := ⟨o.pre, fun p hp => o.cell p (s.subset hp), (s.map _).nodup o.nd⟩
theorem Cel.tail {p : Nat × MO} (o : Cel h0 h (p :: L)) : Cel h0 h L := o.sub (List.sublist_cons_self _ _)
theorem Cel.none (o : Cel h0 h L) : Cel h0 h [] := o.sub (List.nil_sublist _)
theorem Own.cel {L : LL} (o : Own h0 h L) : Cel h0 h (L.map fun p => (p.1, .lst p.2)) := ⟨o.pre, fun p hp => by
  obtain ⟨q, hq, rfl⟩ := List.mem_map.mp hp
  exact o.cell q hq, by rw [List.map_map]; exact o.nd⟩
/-! ### rules -/
variable {Q : D → MH → Prop} {E : XE} {a b o : ME} {r : MA} {ρ : Slots} {N : SP} {T : D → MH → Prop} {B C : SP} {X : SX}
theorem c_new {xs : List D} (o : Cel h0 h L) (l : xs.length ≤ 1000000) (q : ∀ i h', Cel h0 h' ((i, .lst xs) :: L) → Q (.ref i) h') : Sat (toLst xs h) Q E := w_toLst l (q _ _ (o.alloc _))
theorem c_app {d : D} {l : List D} (o : Cel h0 h L) (n : Nat) (e : L[n]? = some (i, .lst l)) (c : l.length < 1000000) (q : ∀ h', Cel h0 h' (L.set n (i, .lst (l ++ [d]))) → Q .non h') : Sat (dAppend (.ref i) [d] h) Q E := w_app (o.at n e) c (q _ (o.setAt n e _))
theorem c_dict0 (o : Cel h0 h L) (q : ∀ i h', Cel h0 h' ((i, .dK []) :: L) → Q (.ref i) h') : Sat (mDict0 ρ h) Q E := w_dict0 (q _ _ (o.alloc _))
def fldK (cs : List Str) (f : Str) (x : D) (h1 : MH) : R D := match insOf h1 x with
  | some (_, c, fs) => if c ∈ cs then match fs.lookup f with
    | some v => .ok v h1
    | none => .bad else .bad
  | none => .bad
theorem w_fld {cs : List Str} {f : Str} (q : Sat (a ρ h) (fun x h1 => Sat (fldK cs f x h1) Q E) E) : Sat (mFld cs f a ρ h) Q E := Sat.bnd q
theorem insOf_of {c : Str} {fs : List (Str × D)} (e : h[i]? = some (.ins c fs)) : insOf h (.ref i) = some (i, c, fs) := by simp only [insOf, e]
theorem w_fldK {cs : List Str} {f c : Str} {fs : List (Str × D)} {v : D} (e : h[i]? = some (.ins c fs)) (hc : c ∈ cs) (hf : fs.lookup f = some v) (q : Q v h) : Sat (fldK cs f (.ref i) h) Q E := w_eq (by unfold fldK; rw [insOf_of e]; simp only [hc, if_true, hf]) q
def setFldK (cs : List Str) (f : Str) (d x : D) (ρ : Slots) (h2 : MH) : Out := match insOf h2 x with
  | some (i, c, fs) => if c ∈ cs ∧ fs.length < 1000 then .nx ρ (h2.set i (.ins c (putFD f d fs))) else .bad
  | none => .bad
theorem w_setFld {cs : List Str} {f : Str} (q : Sat (b ρ h) (fun d h1 => Sat (a ρ h1) (fun x h2 => OS (setFldK cs f d x ρ h2) N T B C X) fun x fs h => X x fs ρ h) fun x fs h => X x fs ρ h) : OS (mSetFld cs f a b ρ h) N T B C X :=
  Sat.ot (q.monoE (fun _ _ z => Sat.ot z) fun _ _ _ z => z)
theorem w_setFldK {cs : List Str} {f c : Str} {fs : List (Str × D)} {d : D} (e : h[i]? = some (.ins c fs)) (hc : c ∈ cs) (hl : fs.length < 1000) (q : N ρ (h.set i (.ins c (putFD f d fs)))) : OS (setFldK cs f d (.ref i) ρ h) N T B C X := by
  unfold setFldK
  rw [insOf_of e]
  simp only
  rw [if_pos ⟨hc, hl⟩]
  exact w_nx q
theorem w_new {c : Str} {F : List D → MH → R D} (q : Sat (r ρ h) (fun xs h1 => Sat (F (.ref h1.length :: xs) (h1 ++ [.ins c []])) (fun y h2 => y = .non ∧ Q (.ref h1.length) h2) E) E) : Sat (mNew c F r ρ h) Q E :=
  Sat.bnd (q.monoE (fun xs h1 z => Sat.bnd (z.monoE (fun y h2 z => by obtain ⟨rfl, z⟩ := z; exact w_ok z) fun _ _ _ z => z)) fun _ _ _ z => z)
def methK (m : Str) (tab : MTab) (r : MA) (ρ : Slots) (x : D) (h1 : MH) : R D := match insOf h1 x with
  | some (_, c, fs) => match tab.lookup c with
    | some F => if fs.lookup m = none then (r ρ h1).bind fun xs h2 => F (x :: xs) h2 else .bad
    | none => .bad
  | none => .bad
theorem w_methI {m : Str} {tab : MTab} (q : Sat (a ρ h) (fun x h1 => Sat (methK m tab r ρ x h1) Q E) E) : Sat (mMethI m tab a r ρ h) Q E := Sat.bnd q
theorem w_methK {m c : Str} {tab : MTab} {fs : List (Str × D)} {F : List D → MH → R D} (e : h[i]? = some (.ins c fs)) (hF : tab.lookup c = some F) (hl : fs.lookup m = none) (q : Sat (r ρ h) (fun xs h2 => Sat (F (.ref i :: xs) h2) Q E) E) : Sat (methK m tab r ρ (.ref i) h) Q E := by
  unfold methK
  rw [insOf_of e]
  simp only [hF]
  rw [if_pos hl]
  exact Sat.bnd q
def isCK (tab : List (Str × Bool)) (x : D) (h1 : MH) : R D := match insOf h1 x with
  | some (_, c, _) => match tab.lookup c with
    | some b => .ok (.bl b) h1
    | none => .bad
  | none => .bad
theorem w_isC {tab : List (Str × Bool)} (q : Sat (a ρ h) (fun x h1 => Sat (isCK tab x h1) Q E) E) : Sat (mIsC tab a ρ h) Q E := Sat.bnd q
theorem w_isCK {tab : List (Str × Bool)} {c : Str} {fs : List (Str × D)} {k : Bool} (e : h[i]? = some (.ins c fs)) (hk : tab.lookup c = some k) (q : Q (.bl k) h) : Sat (isCK tab (.ref i) h) Q E := w_eq (by unfold isCK; rw [insOf_of e]; simp only [hk]) q
theorem w_callD {F : List D → MH → R D} {ds : List D} (q : Sat (r ρ h) (fun xs h1 => Sat (F (xs ++ ds) h1) Q E) E) : Sat (mCallD F ds r ρ h) Q E := Sat.bnd q
theorem getK_ref {l : List (Key × D)} (e : h[i]? = some (.dK l)) : getK h (.ref i) = some l := by simp only [getK, e]
theorem w_dIn {l : List (Key × D)} {x : D} {k : Key} (hx : keyD x = some k) (e : h[i]? = some (.dK l)) (q : Q (.bl (valD l k).isSome) h) : Sat (dDIn x (.ref i) h) Q E := w_eq (by unfold dDIn; rw [hx, getK_ref e]) q
theorem w_dNotIn {l : List (Key × D)} {x : D} {k : Key} (hx : keyD x = some k) (e : h[i]? = some (.dK l)) (q : Q (.bl (!(valD l k).isSome)) h) : Sat (dDNotIn x (.ref i) h) Q E := w_eq (by unfold dDNotIn; rw [hx, getK_ref e]) q
theorem w_dIx {l : List (Key × D)} {x v : D} {k : Key} (hx : keyD x = some k) (e : h[i]? = some (.dK l)) (hv : valD l k = some v) (q : Q v h) : Sat (dDIx (.ref i) x h) Q E := w_eq (by unfold dDIx; rw [hx, getK_ref e]; simp only [hv]) q
theorem w_mDSet (q : Sat (b ρ h) (fun d h1 => Sat (a ρ h1) (fun x h2 => Sat (o ρ h2) (fun y h3 => Sat (dDSet x y d h3) (fun _ h4 => N ρ h4) fun x fs h => X x fs ρ h) fun x fs h => X x fs ρ h) fun x fs h => X x fs ρ h) fun x fs h => X x fs ρ h) : OS (mDSet a o b ρ h) N T B C X :=
  Sat.ot (q.monoE (fun _ _ z => Sat.ot (z.monoE (fun _ _ z => Sat.ot (z.monoE (fun _ _ z => Sat.ot (z.monoE (fun _ _ z => w_nx z) fun _ _ _ z => z)) fun _ _ _ z => z)) fun _ _ _ z => z)) fun _ _ _ z => z)
theorem w_dSet {QU : Unit → MH → Prop} {l : List (Key × D)} {x d : D} {k : Key} (hx : keyD x = some k) (e : h[i]? = some (.dK l)) (c : l.length < 1000000) (q : QU () (h.set i (.dK (putKD l k d)))) : Sat (dDSet (.ref i) x d h) QU E := w_eq (by unfold dDSet; rw [hx, getK_ref e]; simp only [c, if_true]) q
theorem c_dSet {QU : Unit → MH → Prop} {l : List (Key × D)} {x d : D} {k : Key} (hx : keyD x = some k) (o : Cel h0 h L) (n : Nat) (e : L[n]? = some (i, .dK l)) (c : l.length < 1000000) (q : ∀ h', Cel h0 h' (L.set n (i, .dK (putKD l k d))) → QU () h') : Sat (dDSet (.ref i) x d h) QU E :=
  w_dSet hx (o.at n e) c (q _ (o.setAt n e _))
theorem w_dictC {l : List (Str × Str)} (q : Q (.ref h.length) (h ++ [.dK (mergeD l [])])) : Sat (mDictC l ρ h) Q E := w_ok q
theorem mkA {x : Str} {k : List D → MH → R D} {l : MTab} : List.lookup x ((x, k) :: l) = some k := by simp [List.lookup]
theorem mkB {x y : Str} {b : List D → MH → R D} {l : MTab} {r : Option (List D → MH → R D)} (h : (x == y) = false) (q : List.lookup x l = r) : List.lookup x ((y, b) :: l) = r := by rw [List.lookup_cons, h]; exact q
theorem fkA {x : Str} {k : D} {l : List (Str × D)} : List.lookup x ((x, k) :: l) = some k := by simp [List.lookup]
theorem fkB {x y : Str} {b : D} {l : List (Str × D)} {r : Option D} (h : (x == y) = false) (q : List.lookup x l = r) : List.lookup x ((y, b) :: l) = r := by rw [List.lookup_cons, h]; exact q
theorem fkN {x : Str} : List.lookup x ([] : List (Str × D)) = none := rfl
theorem nN_non (h : MH) : dNotN .non .non h = .ok (.bl false) h := by rw [dNotN_ev]; rfl
theorem nN_int (i : Int) (h : MH) : dNotN (.int i) .non h = .ok (.bl true) h := by rw [dNotN_ev]; rfl
theorem nN_tup (l : List D) (h : MH) : dNotN (.tup l) .non h = .ok (.bl true) h := by rw [dNotN_ev]; rfl
theorem iN_tup (l : List D) (h : MH) : dIsN (.tup l) .non h = .ok (.bl false) h := by rw [dIsN_ev]; rfl
theorem iN_non (h : MH) : dIsN .non .non h = .ok (.bl true) h := by rw [dIsN_ev]; rfl
theorem iN_int (i : Int) (h : MH) : dIsN (.int i) .non h = .ok (.bl false) h := by rw [dIsN_ev]; rfl
theorem nN_ref (i : Nat) (h : MH) : dNotN (.ref i) .non h = .ok (.bl true) h := by unfold dNotN; simp
theorem iN_ref (i : Nat) (h : MH) : dIsN (.ref i) .non h = .ok (.bl false) h := by unfold dIsN; simp
end
end Mi

/-! sorted(d) of a dict whose keys are texts; list.clear. -/
namespace Mi
open PySem L2 PySem.Spec PyProof.Rows
/-- what isn't there isn't tracked -/
theorem hok_none {P : Program} {w : World} {H : Hp} {h : Heap} {a : Addr} (ok : HOk P w H h) (e : h.get? a = none) : H a = none := by
  have go : ∀ o, ObjOk P w H h a o → False := by
    intro o
    induction o with
    | lst xs => rintro ⟨_, _, _, _, q⟩; rw [e] at q; cases q
    | tup xs => rintro ⟨_, _, _, o, q, _⟩; rw [e] at q; cases q
    | dK kvs => rintro ⟨_, _, _, _, o, _, _, q, _⟩; rw [e] at q; cases q
    | dT kvs => rintro ⟨_, _, _, _, o, _, _, q, _⟩; rw [e] at q; cases q
    | set S n => rintro ⟨o, _, _, _, q, _⟩; rw [e] at q; cases q
    | ins C dx fs => rintro ⟨_, _, _, q, _⟩; rw [e] at q; cases q
    | own y => rintro ⟨_, q⟩; rw [e] at q; cases q
    | xd fs => rintro ⟨_, ⟨_, _, _, q, _⟩, _⟩; rw [e] at q; cases q
    | rng lo hi => rintro ⟨_, _, _, q⟩; rw [e] at q; cases q
    | frz ob u ih => rintro ⟨q, _⟩; rw [e] at q; cases q
    | tbl ps => intro q; rw [show h.get? a = some _ from q] at e; cases e
    | met f y => intro q; rw [show h.get? a = some _ from q] at e; cases e
    | ext φ => rintro ⟨_, ⟨_, q⟩, _⟩; rw [e] at q; cases q
  cases q : H a with
  | none => rfl
  | some o => exact (go o (ok a o q)).elim
theorem each_strs : ∀ {vs : List Value} {ys : List Str}, (∀ (j : Nat) (v : Value), vs[j]? = some v → ∃ y t, ys[j]? = some y ∧ v = .str y t) → vs.length = ys.length → PySem.W.EachIs (fun v y => ∃ t, v = Value.str y t) vs ys
  | [], [], _, _ => .nil
  | [], _ :: _, _, e => by simp at e
  | _ :: _, [], _, e => by simp at e
  | v :: vs, y :: ys, g, e => by
    obtain ⟨y', t, h1, h2⟩ := g 0 v rfl
    simp at h1
    subst h1
    exact .cons ⟨t, h2⟩ (each_strs (fun j u hu => by simpa using g (j + 1) u (by simpa using hu)) (by simpa using e))
theorem vals_each : ∀ {vs : List Value} {ys : List Str}, PySem.W.EachIs (fun v y => ∃ t, v = Value.str y t) vs ys → Vals (ys.map V.str) vs
  | _, _, .nil => .nil
  | _, _, .cons h t => .cons h (vals_each t)
theorem ltC_iff : ∀ l m : List Nat, ltC l m = true ↔ l < m
  | [], [] => by simp [ltC, PySem.Spec.ltCps]
  | [], y :: m => by simp [ltC, PySem.Spec.ltCps]
  | x :: l, [] => by simp [ltC, PySem.Spec.ltCps]
  | x :: l, y :: m => by
    have ih := ltC_iff l m
    simp only [ltC, PySem.Spec.ltCps] at ih ⊢
    rw [List.cons_lt_cons_iff]
    simp [ih]
theorem le_data (a b : Str) : PySem.W.dataLe false PyData.str a b = leS a b := by
  show (!PySem.W.dataLt (.str b) (.str a)) = leS a b
  rw [PySem.W.dataLt_str]
  unfold leS
  congr 1
  rw [Bool.eq_iff_iff, decide_eq_true_iff]
  exact (ltC_iff _ _).symm
theorem sort_data (ys : List Str) : ys.mergeSort (PySem.W.dataLe false PyData.str) = sortS ys := by
  have : PySem.W.dataLe false PyData.str = leS := by funext a b; exact le_data a b
  rw [this]
  rfl
def rSortK : List V → Hp → VK → Prop := fun xs H Q => ∃ (a : Addr) (kvs : List (Key × V)) (ys : List Str), xs = [V.ref a] ∧ H a = some (.dK kvs) ∧ kvs.map (·.1) = ys.map Sum.inr ∧ ∀ p, H p = none → Q (.ref p) (upd H p (.lst ((sortS ys).map V.str)))
theorem cr_sortK {X : Cx} (hu : X.A.units + 65 < cLine) (hc : X.calm = true) : CallR X (.builtin "sorted") rSortK := by
  intro pins s σ H xs us Q I rr hh
  obtain ⟨a, kvs, ys, rfl, ea, ek, q⟩ := hh
  rw [Vals.ref1 rr]
  obtain ⟨z, hd, vs, rel, o, es, ep, g1, g2, g3, g4, g5, g6⟩ := dk_of I.hok ea
  have da : s.heap.DictAt (mixKind X.prog X.w) a vs ep := ⟨o, es, g1, g2, g3, g4, g5, g6⟩
  have src := PySem.W.kdl_dict (prog := X.prog) (w := X.w) (knd := mixKind X.prog X.w) (kvs := vs) (ep := ep) hd
  have hvk : vs.map (·.1) = ys.map Sum.inr := by rw [← ek]; exact rel.keys.symm
  have hvl : vs.length = ys.length := by have := congrArg List.length hvk; simpa using this
  have hz : vs.length ≤ sizeLine := by rw [← rel.length]; exact z
  apply Calls.call_function_entry kind_sorted plain_sorted entry_sorted (args_sorted1 _)
  unfold Builtin.«sorted»
  apply wpAny_bind (m := checkCount "sorted" 1 1 _)
  apply wpAny_pure
  apply wpAny_bind
  apply PySem.W.kdu_collect (A := X.A.in1) src (I.ok.hd hc) da hz
  intro h' tk acc hk hacc
  have hal : acc.toList.length = ys.length := by rw [Array.length_toList, hacc.1]; exact hvl
  have he : PySem.W.EachIs (fun v y => ∃ t, v = Value.str y t) acc.toList ys := each_strs (fun j v e => by
    obtain ⟨k, x, e1, e2⟩ := hacc.2 j v (by rw [← Array.getElem?_toList]; exact e)
    have e3 : (vs.map (·.1))[j]? = some k := by rw [List.getElem?_map, e1]; rfl
    rw [hvk, List.getElem?_map, Option.map_eq_some_iff] at e3
    obtain ⟨y, e4, rfl⟩ := e3
    rcases keyIs_shape (k := Sum.inr y) (v := v) (show keyIs _ _ = true from e2) with ⟨i, t, e5, e6⟩ | ⟨x', t, e5, e6⟩
    · cases e5
    · cases e5; exact ⟨_, t, e4, e6⟩) hal
  apply wpAny_bind
  apply wpAny_newList
  · have p0 : s.heap.get? h'.objs.size = none := by
      cases e : s.heap.get? h'.objs.size with
      | none => rfl
      | some o => exact absurd (Heap.lt_size (hk _ _ e)) (Nat.lt_irrefl _)
    have pH := hok_none I.hok p0
    have at' : (h'.push { cls := .type "list", data := .seq acc.toList.toArray }).get? h'.objs.size = some (seqObj "list" acc.toList.toArray 0) := Heap.get?_push_size _ rfl
    refine wpAny_bind (wpAny_holding ?_)
    refine PySem.W.list_sort_data (s := { s with heap := h'.push { cls := .type "list", data := .seq acc.toList.toArray }, toks := tk }) (enc := PyData.str) (R := fun v y => ∃ t, v = Value.str y t) (bs := ys) at' he
      (he.mono fun v y ⟨t, e⟩ => ⟨[], by rw [e]; exact .str _ _, by simp⟩) (PySem.W.AllAlike.of fun _ _ => rfl) (PySem.W.Sortable.others fun _ => ⟨nofun, nofun⟩) (by rw [← hvl]; exact hz) (fun y _ => ?_) fun out ho hR => ?_
    · show X.A.in1.units + 1 + 0 < cLine
      have : X.A.in1.units ≤ X.A.units + 1 := by first | exact Nat.le_refl _ | decide | simp [Around.in1]
      omega
    · rw [sort_data] at hR
      obtain ⟨e2, he2⟩ := sortedHeap_at (vs := acc.toList) (out := out.toArray) at'
      refine wpAny_pure ⟨_, rfl, .ref h'.objs.size, upd H h'.objs.size (.lst ((sortS ys).map V.str)), ?_, rfl, q _ pH⟩
      refine I.laidN (t' := tk) (fun b u e => ?_) p0 pH ⟨?_, out, e2, vals_each hR, he2⟩
      · have hb := hk b u e
        rw [sortedHeap_old (Nat.ne_of_lt (Heap.lt_size hb)) (by rw [Heap.size_push]; exact Nat.lt_succ_of_lt (Heap.lt_size hb))]
        exact Heap.get?_push_of_some _ hb
      · rw [List.length_map]
        have := (List.mergeSort_perm ys leS).length_eq
        show (ys.mergeSort leS).length ≤ _
        rw [this, ← hvl]
        exact hz
  · rw [hal, ← hvl]; exact hz
/-- the keys, all of them texts -/
def strKeys : List (Key × D) → Option (List Str)
  | [] => some []
  | (.inr x, _) :: l => (strKeys l).map (x :: ·)
  | (.inl _, _) :: _ => none
def dSortK : List D → MH → R D
  | [x], h => match getK h x with
    | some l => match strKeys l with
      | some ys => .ok (.ref h.length) (h ++ [.lst ((sortS ys).map .str)])
      | none => .bad
    | none => .bad
  | _, _ => .bad
theorem strKeys_of {g : G} {H : Hp} {μ : List Addr} : ∀ {kv : List (Key × V)} {l : List (Key × D)} {ys : List Str}, KR g H μ kv l → strKeys l = some ys → kv.map (·.1) = ys.map Sum.inr
  | _, _, _, .nil, e => by cases e; rfl
  | _, _, _, @KR.cons _ _ _ _ k v d vs ds a b, e => by
    cases k with
    | inl i => cases e
    | inr x =>
      simp only [strKeys, Option.map_eq_some_iff] at e
      obtain ⟨r, e, rfl⟩ := e
      rw [List.map_cons, List.map_cons, strKeys_of b e]
theorem sn_sortK {g : G} : SN g rSortK dSortK := sn1 (fun H μ h x a Q W hr va bk => by
  simp only [dSortK] at bk
  split at bk
  · rename_i l e1
    split at bk
    · rename_i ys e2
      obtain ⟨i, p, kv, rfl, rfl, hi, hq, hp, kr⟩ := getK_of hr va e1
      exact ⟨p, kv, ys, rfl, hp, strKeys_of kr e2, fun r h3 => bk.newL hr (vrs_strs _) h3⟩
    · exact bk.elim
  · exact bk.elim) (fun _ => rfl) (fun a b l h => by simp [dSortK])
def dClear : D → List D → MH → R D
  | .ref i, [], h => match h[i]? with
    | some (.lst _) => .ok .non (h.set i (.lst []))
    | _ => .bad
  | _, _, _ => .bad
theorem sm_clear {g : G} : SM g rClear dClear := by
  intro H μ h x xs a ds Q W hr va vs bk
  unfold dClear at bk
  split at bk
  · rename_i i
    cases va with
    | @ref p _ hi =>
      cases vs
      split at bk
      · rename_i l q
        obtain ⟨ys, h1, h2⟩ := hr.lst hi q
        exact ⟨p, ys, rfl, rfl, h1, bk.setL hr hi q h1 .nil .non⟩
      · exact bk.elim
  · exact bk.elim
/-! the calculus -/
theorem w_sortK {h : MH} {i : Nat} {l : List (Key × D)} {ys : List Str} {Q : D → MH → Prop} {E : XE} (e : h[i]? = some (.dK l)) (k : strKeys l = some ys) (q : Q (.ref h.length) (h ++ [.lst ((sortS ys).map .str)])) : Sat (dSortK [.ref i] h) Q E := w_eq (by simp only [dSortK, getK_ref e, k]) q
theorem o_clear {h0 h : MH} {L : LL} {i : Nat} {l : List D} {Q : D → MH → Prop} {E : XE} (o : Own h0 h L) (n : Nat) (e : L[n]? = some (i, l)) (q : ∀ h', Own h0 h' (L.set n (i, [])) → Q .non h') : Sat (dClear (.ref i) [] h) Q E := w_eq (by simp only [dClear, o.at n e]) (q _ (o.setAt n e _))
end Mi

namespace Mi
open PySem L2
def m_names_c11ae : List D → MH → R D := mFun 1 7
 (mSeq (mAsg 1 (mC (.str (Str.ofString "abcdefghijklmnopqrstuvwxyz"))))
 (mSeq (mAsg 2 (mBin dMod (mVar 0) (mC (.int 26))))
 (mSeq (mAsg 3 (mMeth isStrD dJoin (mC (.str (Str.ofString ""))) (mCons (mLc (mRange1 (mC (.int 8))) (mgName 6) (mYes) (mBin dIx (mVar 1) (mBin dMod (mBin dAdd (mVar 2) (mBin dMul (mC (.int 3)) (mVar 6))) (mC (.int 26)))) [6]) (mNil))))
 (mSeq (mIf (mB (mBin dEq (mBin dMod (mBin dFdiv (mVar 0) (mC (.int 26))) (mC (.int 3))) (mC (.int 0))))
 (mSeq (mAsg 4 (mBin dMod (mBin dFdiv (mVar 0) (mC (.int 78))) (mC (.int 8))))
 (mSeq (mAsg 5 (mBin dMod (mBin dFdiv (mVar 0) (mC (.int 624))) (mC (.int 26))))
 (mRet (mLc (mRange1 (mC (.int 9))) (mgName 6) (mYes) (mBin dAdd (mBin dAdd (mSl (mVar 3) (mNo) (mSome (mVar 4))) (mBin dIx (mVar 1) (mBin dMod (mBin dAdd (mVar 5) (mVar 6)) (mC (.int 26))))) (mSl (mVar 3) (mSome (mBin dAdd (mVar 4) (mC (.int 1)))) (mNo))) [6]))))
 (mSkip))
 (mSeq (mIf (mB (mBin dEq (mBin dMod (mBin dFdiv (mVar 0) (mC (.int 26))) (mC (.int 3))) (mC (.int 1))))
 (mRet (mBin dAdd (mLc (mRange1 (mC (.int 8))) (mgName 6) (mYes) (mSl (mVar 3) (mNo) (mSome (mBin dAdd (mVar 6) (mC (.int 1))))) [6]) (mLst (mCons (mSl (mVar 3) (mSome (mC (.int 1))) (mNo)) (mNil)))))
 (mSkip))
 (mRet (mLc (mRange1 (mC (.int 9))) (mgName 6) (mYes) (mBin dIx (mVar 1) (mBin dMod (mBin dAdd (mVar 2) (mBin dMul (mC (.int 5)) (mVar 6))) (mC (.int 26)))) [6])))))))
def m_cell_at_2c4cb : List D → MH → R D := mFun 2 2
 (mSeq (mIf (mB (mBin dLt (mVar 1) (mCall dLen (mCons (mVar 0) (mNil)))))
 (mRet (mBin dIx (mVar 0) (mVar 1)))
 (mSkip))
 (mRet (mC (.int 0))))
def m_mix_1b9e1 : List D → MH → R D := mFun 2 3
 (mSeq (mAsg 2 (mBin dMod (mBin dMul (mBin dAdd (mBin dAdd (mVar 0) (mC (.int 1))) (mBin dMul (mVar 1) (mVar 1))) (mC (.int 48271))) (mC (.int 2147483629))))
 (mRet (mBin dMod (mBin dMul (mVar 2) (mBin dAdd (mBin dAdd (mBin dFdiv (mVar 2) (mC (.int 128))) (mBin dMul (mC (.int 69621)) (mVar 1))) (mC (.int 16807)))) (mC (.int 2147483587)))))
def m_tape_92891 : List D → MH → R D := mFun 2 5
 (mSeq (mAsg 2 (mLst (mNil)))
 (mSeq (mAsg 3 (mVar 0))
 (mSeq (mFor (mRange1 (mVar 1)) (mgName 4)
 (mIf (mB (mBin dGe (mVar 3) (mBin dPow (mC (.int 10)) (mC (.int 18)))))
 (mSeq (mDrop (mMeth isListD dAppend (mVar 2) (mCons (mBin dMod (mVar 3) (mC (.int 1000003))) (mNil))))
 (mAsg 3 (mBin dFdiv (mVar 3) (mC (.int 1000003)))))
 (mDrop (mMeth isListD dAppend (mVar 2) (mCons (mCall (m_mix_1b9e1) (mCons (mVar 0) (mCons (mVar 4) (mNil)))) (mNil))))))
 (mRet (mRevL (mVar 2))))))
def m_next_fea17 : List D → MH → R D := mFun 2 2
 (mSeq (mIf (mB (mBin dEq (mVar 0) (mLst (mNil))))
 (mRet (mC (.int 0)))
 (mSkip))
 (mRet (mBin dMod (mMeth isListD dPop (mVar 0) (mNil)) (mVar 1))))
def m_machine_8b383 : List D → MH → R D := mFun 4 17
 (mSeq (mAsg 4 (mCall (m_cell_at_2c4cb) (mCons (mVar 0) (mCons (mVar 1) (mNil)))))
 (mSeq (mAsg 5 (mBin dAdd (mC (.int 1)) (mBin dMod (mVar 4) (mVar 3))))
 (mSeq (mAsg 6 (mSl (mVar 2) (mNo) (mSome (mBin dMod (mBin dFdiv (mVar 4) (mC (.int 8))) (mC (.int 10))))))
 (mSeq (mAsg 7 (mCall dSorted (mCons (mSl (mSl (mVar 2) (mSome (mBin dMod (mBin dFdiv (mVar 4) (mC (.int 80))) (mC (.int 9)))) (mNo)) (mNo) (mSome (mBin dMod (mBin dFdiv (mVar 4) (mC (.int 720))) (mC (.int 5))))) (mNil))))
 (mSeq (mAsg 8 (mCall (m_tape_92891) (mCons (mCall (m_cell_at_2c4cb) (mCons (mVar 0) (mCons (mBin dAdd (mVar 1) (mC (.int 1))) (mNil)))) (mCons (mC (.int 5)) (mNil)))))
 (mSeq (mAsg 9 (mLc (mIter (mBin dAdd (mVar 7) (mLst (mCons (mC (.str (Str.ofString ""))) (mNil))))) (mgName 15) (mYes) (mCall (m_next_fea17) (mCons (mVar 8) (mCons (mVar 5) (mNil)))) [15]))
 (mSeq (mAsg 8 (mCall (m_tape_92891) (mCons (mCall (m_cell_at_2c4cb) (mCons (mVar 0) (mCons (mBin dAdd (mVar 1) (mC (.int 2))) (mNil)))) (mCons (mC (.int 66)) (mNil)))))
 (mSeq (mAsg 10 (mCall (m_next_fea17) (mCons (mVar 8) (mCons (mC (.int 5)) (mNil)))))
 (mSeq (mAsg 11 (mLst (mNil)))
 (mSeq (mFor (mRange1 (mVar 5)) (mgName 12)
 (mSeq (mAsg 14 (mLc (mRange1 (mVar 5)) (mgName 16) (mYes) (mCall (m_next_fea17) (mCons (mVar 8) (mCons (mVar 5) (mNil)))) [16]))
 (mSeq (mIf (mB (mBin dEq (mVar 10) (mC (.int 0))))
 (mAsg 14 (mLc (mRange1 (mVar 5)) (mgName 16) (mYes) (mBin dMod (mBin dAdd (mBin dAdd (mVar 12) (mVar 16)) (mC (.int 1))) (mVar 5)) [16]))
 (mSkip))
 (mSeq (mIf (mB (mBin dEq (mVar 10) (mC (.int 1))))
 (mAsg 14 (mLc (mRange1 (mVar 5)) (mgName 16) (mYes) (mCall dMax (mCons (mVar 12) (mCons (mVar 16) (mNil)))) [16]))
 (mSkip))
 (mSeq (mIf (mB (mBin dEq (mVar 10) (mC (.int 2))))
 (mAsg 14 (mLc (mRange1 (mVar 5)) (mgName 16) (mYes) (mCall dMin (mCons (mBin dAdd (mBin dAdd (mVar 12) (mC (.int 1))) (mBin dMul (mBin dMod (mBin dIx (mVar 14) (mC (.int 0))) (mC (.int 2))) (mVar 16))) (mCons (mBin dSub (mVar 5) (mC (.int 1))) (mNil)))) [16]))
 (mSkip))
 (mDrop (mMeth isListD dAppend (mVar 11) (mCons (mCall dTuple (mCons (mVar 14) (mNil))) (mNil)))))))))
 (mSeq (mAsg 8 (mCall (m_tape_92891) (mCons (mCall (m_cell_at_2c4cb) (mCons (mVar 0) (mCons (mBin dAdd (mVar 1) (mC (.int 3))) (mNil)))) (mCons (mC (.int 8)) (mNil)))))
 (mSeq (mAsg 13 (mLc (mRange1 (mVar 5)) (mgName 12) (mYes) (mCall (m_next_fea17) (mCons (mVar 8) (mCons (mBin dShl (mC (.int 1)) (mCall dLen (mCons (mVar 6) (mNil)))) (mNil)))) [12]))
 (mRet (mTup (mCons (mCall dTuple (mCons (mVar 6) (mNil))) (mCons (mCall dTuple (mCons (mVar 7) (mNil))) (mCons (mCall dTuple (mCons (mVar 9) (mNil))) (mCons (mCall dTuple (mCons (mVar 11) (mNil))) (mCons (mCall dTuple (mCons (mVar 13) (mNil))) (mNil))))))))))))))))))))
def m_wide_f688e : List D → MH → R D := mFun 2 9
 (mSeq (mAsg 2 (mCall (m_tape_92891) (mCons (mVar 1) (mCons (mC (.int 30)) (mNil)))))
 (mSeq (mAsg 3 (mCall (m_next_fea17) (mCons (mVar 2) (mCons (mC (.int 26)) (mNil)))))
 (mSeq (mAsg 4 (mLst (mNil)))
 (mSeq (mFor (mRange1 (mCall (m_next_fea17) (mCons (mVar 2) (mCons (mC (.int 21)) (mNil))))) (mgName 5)
 (mSeq (mAsg 7 (mBin dIx (mC (.str (Str.ofString "nopqrstuvwxyzabcdefghijklm"))) (mBin dMod (mBin dAdd (mVar 3) (mBin dMul (mC (.int 7)) (mVar 5))) (mC (.int 26)))))
 (mDrop (mMeth isListD dAppend (mVar 4) (mCons (mBin dAdd (mVar 7) (mBin dIx (mLst (mCons (mC (.str (Str.ofString ""))) (mCons (mC (.str (Str.ofString "a"))) (mNil)))) (mCall (m_next_fea17) (mCons (mVar 2) (mCons (mC (.int 2)) (mNil)))))) (mNil))))))
 (mSeq (mAsg 6 (mLc (mRange1 (mCall dLen (mCons (mBin dIx (mVar 0) (mC (.int 4))) (mNil)))) (mgName 8) (mYes) (mBin dMod (mBin dAdd (mBin dMul (mCall (m_next_fea17) (mCons (mVar 2) (mCons (mC (.int 1048576)) (mNil)))) (mC (.int 1048573))) (mBin dMul (mC (.int 7)) (mVar 8))) (mBin dShl (mC (.int 1)) (mCall dLen (mCons (mVar 4) (mNil))))) [8]))
 (mRet (mTup (mCons (mCall dTuple (mCons (mVar 4) (mNil))) (mCons (mBin dIx (mVar 0) (mC (.int 1))) (mCons (mBin dIx (mVar 0) (mC (.int 2))) (mCons (mBin dIx (mVar 0) (mC (.int 3))) (mCons (mCall dTuple (mCons (mVar 6) (mNil))) (mNil)))))))))))))
def m_forms_of_305ad : List D → MH → R D := mFun 2 5
 (mSeq (mAsg 2 (mLst (mNil)))
 (mSeq (mAsg 3 (mBin dIx (mBin dIx (mVar 0) (mC (.int 4))) (mVar 1)))
 (mSeq (mFor (mIter (mBin dIx (mVar 0) (mC (.int 0)))) (mgName 4)
 (mSeq (mIf (mB (mBin dEq (mBin dMod (mVar 3) (mC (.int 2))) (mC (.int 1))))
 (mDrop (mMeth isListD dAppend (mVar 2) (mCons (mVar 4) (mNil))))
 (mSkip))
 (mAsg 3 (mBin dFdiv (mVar 3) (mC (.int 2))))))
 (mRet (mVar 2)))))
def m_list_d283e : List D → MH → R D := mFun 2 4
 (mSeq (mIf (mOr (mNot (mB (mIsi "list" (mVar 0)))) (mB (mBin dNe (mCall dLen (mCons (mVar 0) (mNil))) (mCall dLen (mCons (mVar 1) (mNil))))))
 (mRet (mC (.bl false)))
 (mSkip))
 (mRet (mCall dAll (mCons (mLc (mZip (mVar 0) (mVar 1)) (mgTup (mgCons (mgName 2) (mgCons (mgName 3) mgNil))) (mYes) (mAndV (mIsi "str" (mVar 2)) (mBin dEq (mVar 2) (mVar 3))) [2, 3]) (mNil)))))
def m_due_fcc09 : List D → MH → R D := mFun 2 5
 (mSeq (mAsg 2 (mLst (mNil)))
 (mSeq (mAsg 3 (mC (.int 1)))
 (mSeq (mFor (mIter (mBin dIx (mVar 0) (mC (.int 0)))) (mgName 4)
 (mSeq (mIf (mB (mBin dEq (mBin dMod (mBin dFdiv (mBin dIx (mBin dIx (mVar 0) (mC (.int 4))) (mVar 1)) (mVar 3)) (mC (.int 2))) (mC (.int 1))))
 (mDrop (mMeth isListD dAppend (mVar 2) (mCons (mVar 4) (mNil))))
 (mSkip))
 (mAsg 3 (mBin dMul (mVar 3) (mC (.int 2))))))
 (mRet (mVar 2)))))
def m_law_c55c4 : List D → MH → R D := mFun 1 8
 (mSeq (mAsg 1 (mCall (m_names_c11ae) (mCons (mCall (m_cell_at_2c4cb) (mCons (mVar 0) (mCons (mC (.int 0)) (mNil)))) (mNil))))
 (mSeq (mAsg 2 (mCall (m_machine_8b383) (mCons (mVar 0) (mCons (mC (.int 1)) (mCons (mVar 1) (mCons (mC (.int 8)) (mNil)))))))
 (mSeq (mIf (mB (mBin dEq (mBin dMod (mCall (m_cell_at_2c4cb) (mCons (mVar 0) (mCons (mC (.int 5)) (mNil)))) (mC (.int 3))) (mC (.int 0))))
 (mAsg 2 (mCall (m_wide_f688e) (mCons (mVar 2) (mCons (mCall (m_cell_at_2c4cb) (mCons (mVar 0) (mCons (mC (.int 6)) (mNil)))) (mNil)))))
 (mSkip))
 (mSeq (mAsg 3 (mLst (mNil)))
 (mSeq (mFor (mIter (mBin dAdd (mListRg1 (mCall dLen (mCons (mBin dIx (mVar 2) (mC (.int 4))) (mNil)))) (mListRg1 (mCall dLen (mCons (mBin dIx (mVar 2) (mC (.int 4))) (mNil)))))) (mgName 4)
 (mSeq (mAsg 5 (mCall (m_forms_of_305ad) (mCons (mVar 2) (mCons (mVar 4) (mNil)))))
 (mSeq (mIf (mNot (mB (mCall (m_list_d283e) (mCons (mVar 5) (mCons (mCall (m_due_fcc09) (mCons (mVar 2) (mCons (mVar 4) (mNil)))) (mNil))))))
 (mRet (mC (.bl false)))
 (mSkip))
 (mSeq (mDrop (mMeth isListD dAppend (mVar 3) (mCons (mTup (mCons (mVar 5) (mCons (mCall dList (mCons (mVar 5) (mNil))) (mNil)))) (mNil))))
 (mSeq (mAsg 6 (mCall (m_forms_of_305ad) (mCons (mVar 2) (mCons (mVar 4) (mNil)))))
 (mSeq (mDrop (mMeth isListD dAppend (mVar 6) (mCons (mBin dIx (mVar 1) (mC (.int 0))) (mNil))))
 (mSetIx (mVar 6) (mC (.int 0)) (mBin dIx (mVar 1) (mC (.int 1))))))))))
 (mRet (mCall dAll (mCons (mLc (mIter (mVar 3)) (mgTup (mgCons (mgName 5) (mgCons (mgName 7) mgNil))) (mYes) (mBin dEq (mVar 5) (mVar 7)) [5, 7]) (mNil)))))))))
end Mi

namespace Mi
open PySem L2
local macro_rules | `(tactic| walk_at "w") => `(tactic| first
  | with_reducible refine w_seq ?_
  | with_reducible refine w_asg ?_
  | with_reducible refine w_cons ?_
  | with_reducible refine w_nil ?_
  | with_reducible refine w_c ?_
  | ((with_reducible refine w_var (d := ?_) ?_ ?_); rotate_left; rfl)
  | with_reducible refine w_bin ?_
  | with_reducible refine w_call ?_
  | with_reducible refine w_if ?_
  | with_reducible refine w_B ?_
  | with_reducible refine w_unB ?_
  | with_reducible refine w_ret ?_
  | with_reducible refine w_drop ?_
  | with_reducible refine w_skip ?_
  | with_reducible refine w_eq (dAdd_int _ _ _) ?_
  | with_reducible refine w_eq (dSub_int _ _ _) ?_
  | with_reducible refine w_eq (dEq_int _ _ _) ?_
  | with_reducible refine w_eq (dEq_str _ _ _) ?_
  | with_reducible refine w_eq (dLt_int _ _ _) ?_
  | with_reducible refine w_eq (dLe_int _ _ _) ?_
  | with_reducible refine w_eq (dGt_int _ _ _) ?_
  | with_reducible refine w_eq (dGe_int _ _ _) ?_
  | with_reducible refine w_eq (dNe_int _ _ _) ?_
  | ((with_reducible refine w_mod ?_ ?_); (first | assumption | decide | omega))
  | ((with_reducible refine w_fdiv ?_ ?_); (first | assumption | decide | omega))
  | ((with_reducible refine w_mulS ?_ ?_); (first | decide | omega))
  | ((with_reducible refine w_addS ?_ ?_); (first | assumption | decide | omega))
  | ((with_reducible refine w_lenS ?_ ?_); (first | assumption | decide | omega))
  | ((with_reducible refine w_slS ?_ ?_); (first | assumption | decide | omega))
  | with_reducible refine w_eq (dLen_tup _ _) ?_
  | with_reducible refine w_eq (dSl_tup _ _ _ _) ?_
  | with_reducible refine w_eq (dMax_ev _ _ _) ?_
  | with_reducible refine w_eq (dMin_ev _ _ _) ?_
  | with_reducible refine w_eq (dAbs_ev _ _) ?_
  | with_reducible refine w_not ?_
  | with_reducible refine w_and ?_
  | with_reducible refine w_or ?_
  | with_reducible refine br_n ?_
  | with_reducible refine br_tt ?_
  | with_reducible refine br_ff ?_
  | ((with_reducible refine br_dt ?_ ?_); (first | assumption | omega))
  | ((with_reducible refine br_df ?_ ?_); (first | assumption | omega))
  | with_reducible refine w_tup ?_
  | ((with_reducible refine w_toTup ?_ ?_); (first | (simp; done)))
  | with_reducible refine w_lst ?_
  | with_reducible refine w_lc ?_
  | with_reducible refine w_for ?_
  | with_reducible refine w_range1 ?_
  | with_reducible refine w_range2 ?_
  | ((with_reducible refine w_dR1 ?_ ?_); (first | decide | omega))
  | ((with_reducible refine w_dR2 ?_ ?_); (first | decide | omega))
  | with_reducible refine w_iter ?_
  | with_reducible refine w_eq (iter1_tup _ _) ?_
  | with_reducible refine w_eq (iter1_str _ _) ?_
  | with_reducible refine w_sl ?_
  | with_reducible refine w_no ?_
  | with_reducible refine w_some ?_
  | with_reducible refine w_unI ?_
  | with_reducible refine w_meth ?_
  | with_reducible refine w_isi ?_
  | with_reducible refine w_zip ?_
  | with_reducible refine w_ifE ?_
  | with_reducible refine w_andV ?_
  | with_reducible refine w_orV ?_
  | with_reducible refine w_notV ?_
  | with_reducible refine w_andK ?_
  | with_reducible refine w_orK ?_
  | with_reducible refine w_notK ?_
  | with_reducible refine w_revL ?_
  | with_reducible refine w_listRg1 ?_
  | with_reducible refine w_tindex ?_
  | with_reducible refine w_setIx ?_
  | with_reducible refine w_un ?_
  | with_reducible refine w_rev1 ?_
  | with_reducible refine w_rev2 ?_
  | with_reducible refine w_chain ?_
  | with_reducible refine w_chK ?_
  | with_reducible refine w_retN ?_
  | with_reducible refine w_brk ?_
  | with_reducible refine w_cont ?_
  | with_reducible refine w_asgT ?_
  | with_reducible refine w_eq (isi_str_str _ _) ?_
  | with_reducible refine w_eq (isi_int_int _ _) ?_
  | with_reducible refine w_eq (isi_tup_tup _ _) ?_)
local macro_rules | `(tactic| walk_at "go") => `(tactic| (repeat (walk_at "w")); try dsimp only [List.set])
local macro_rules | `(tactic| walk_at "fn") => `(tactic| ((refine w_fun ?_); simp only [startD, List.map_cons, List.map_nil, List.reduceReplicate, Nat.reduceSub, List.cons_append, List.nil_append]; walk_at "go"))
theorem mod_in (x : Int) {n : Int} (h : 0 < n) : 0 ≤ x % n ∧ x % n < n := ⟨Int.emod_nonneg _ (by omega), Int.emod_lt_of_pos _ h⟩
def Cell (c : Int) : Prop := Builtin.Int.intBits c ≤ 1048576
theorem c_cell_at {ns : List Int} (hb : ∀ z ∈ ns, Cell z) {h : MH} {i : Nat} (hl : getL h i = some (ns.map D.int)) {k : Int} (h0 : 0 ≤ k) : Sat (m_cell_at_2c4cb [.ref i, .int k] h) (fun d h' => h' = h ∧ ∃ c, d = .int c ∧ Cell c) noX := by
  walk_at "fn"
  refine w_lenL hl ?_
  walk_at "go"
  refine br_d (fun c => ?_) (fun c => ?_)
  · walk_at "go"
    rw [List.length_map] at c
    obtain ⟨d, e1, e2⟩ := atI_in (l := ns.map D.int) h0 (by simpa using c)
    refine w_ixL hl e1 ⟨rfl, ?_⟩
    rw [List.getElem?_map, Option.map_eq_some_iff] at e2
    obtain ⟨z, e3, rfl⟩ := e2
    exact ⟨z, rfl, hb z (List.mem_of_getElem? e3)⟩
  · walk_at "go"
    exact ⟨rfl, 0, rfl, show Builtin.Int.intBits 0 ≤ 1048576 by decide⟩
theorem bits_pow {i : Int} {n : Nat} (h : Builtin.Int.intBits i ≤ n) : i.natAbs < 2 ^ n := by
  unfold Builtin.Int.intBits at h
  split at h
  · rename_i hz
    have : i.natAbs = 0 := by simpa using hz
    rw [this]
    exact Nat.two_pow_pos n
  · rename_i hz
    have hz' : i.natAbs ≠ 0 := by simpa using hz
    exact (Nat.log2_lt hz').mp (by omega)
theorem bits_add {i j : Int} {n : Nat} (h : Builtin.Int.intBits i ≤ n) (hj : j.natAbs < 2 ^ n) : Builtin.Int.intBits (i + j) ≤ n + 1 := by
  have h1 := bits_pow h
  refine bits_lt ?_
  rw [Nat.pow_succ]
  omega
theorem bits_addS {i j : Int} (h : Cell i) (h0 : -1000000000000 < j) (h1 : j < 1000000000000) : Builtin.Int.intBits (i + j) ≤ 1048577 :=
  bits_add h (Nat.lt_of_lt_of_le (show j.natAbs < 2 ^ 40 by omega) (Nat.pow_le_pow_right (by decide) (by decide)))
theorem sq_le {k : Int} (h : 0 ≤ k ∧ k ≤ 100) : 0 ≤ k * k ∧ k * k ≤ 10000 := ⟨Int.mul_nonneg h.1 h.1, Int.le_trans (Int.mul_le_mul h.2 h.2 h.1 (by decide)) (by decide)⟩
theorem c_mix {c k : Int} (hc : Cell c) (hk : 0 ≤ k ∧ k ≤ 100) {h : MH} : Sat (m_mix_1b9e1 [.int c, .int k] h) (fun d h' => h' = h ∧ ∃ v, d = .int v ∧ 0 ≤ v ∧ v < 2147483648) noX := by
  have hq := sq_le hk
  walk_at "fn"
  refine w_mulB (a := 1048577) (b := 64) ?_ (bits_small (by decide) (by decide)) (by decide) ?_
  · rw [Int.add_assoc]
    exact bits_addS hc (by omega) (by omega)
  walk_at "go"
  have hb := mod_in ((c + 1 + k * k) * 48271) (n := 2147483629) (by decide)
  generalize (c + 1 + k * k) * 48271 % 2147483629 = b at hb
  walk_at "go"
  have h2 := mod_in (b * (b / 128 + 69621 * k + 16807)) (n := 2147483587) (by decide)
  exact ⟨rfl, _, rfl, h2.1, by omega⟩
def Tp (l : List D) : Prop := ∃ zs : List Int, l = zs.map .int ∧ ∀ z ∈ zs, 0 ≤ z ∧ z < 2147483648
theorem Tp.nil : Tp [] := ⟨[], rfl, fun z hz => by simp at hz⟩
theorem Tp.app {l : List D} {v : Int} (t : Tp l) (hv : 0 ≤ v ∧ v < 2147483648) : Tp (l ++ [.int v]) := by
  obtain ⟨zs, rfl, hz⟩ := t
  refine ⟨zs ++ [v], by simp, fun z hm => ?_⟩
  rcases List.mem_append.mp hm with hm | hm
  · exact hz z hm
  · rw [List.mem_singleton.mp hm]; exact hv
theorem Tp.rev {l : List D} (t : Tp l) : Tp l.reverse := by
  obtain ⟨zs, rfl, hz⟩ := t
  exact ⟨zs.reverse, by simp, fun z hm => hz z (by simpa using hm)⟩
theorem c_tape {c : Int} (hc : Cell c) {n : Nat} (hn : n ≤ 100) {h : MH} : Sat (m_tape_92891 [.int c, .int n] h) (fun d h' => ∃ i l, d = .ref i ∧ Own h h' [(i, l)] ∧ Tp l) noX := by
  walk_at "fn"
  refine o_new (Own.nil h) (by simp) fun i h1 o1 => ?_
  walk_at "go"
  refine w_loop0 (fun k ρ h' => ∃ l r o4, ρ = [some (.int c), some (.int n), some (.ref i), some (.int r), o4] ∧ Own h h' [(i, l)] ∧ Tp l ∧ l.length = k) ⟨[], c, none, rfl, o1, Tp.nil, rfl⟩ (fun _ _ _ _ => rfl) ?_ ?_
  · rintro k d ρ h' hd ⟨l, r, o4, rfl, o, tl, hl⟩
    obtain ⟨hk, rfl⟩ := rangeD_get hd
    refine ⟨_, rfl, ?_⟩
    rw [Int.toNat_natCast] at hk
    dsimp only [List.set]
    walk_at "go"
    refine w_pow (n := 18) (by decide) ?_
    walk_at "go"
    refine br_d (fun c => ?_) (fun c => ?_)
    · walk_at "go"
      refine ⟨o.isL 0 rfl, ?_⟩
      walk_at "go"
      refine o_app o 0 rfl (by omega) fun h2 o2 => ?_
      walk_at "go"
      exact ⟨_, _, _, rfl, o2, tl.app (by have := mod_in r (n := 1000003) (by decide); omega), by simp [hl]⟩
    · walk_at "go"
      refine ⟨o.isL 0 rfl, ?_⟩
      walk_at "go"
      refine (c_mix hc (by omega)).mono ?_
      rintro d h2 ⟨rfl, v, rfl, hv⟩
      walk_at "go"
      refine o_app o 0 rfl (by omega) fun h2 o2 => ?_
      exact ⟨_, _, _, rfl, o2, tl.app hv, by simp [hl]⟩
  · rintro ρ h' ⟨l, r, o4, rfl, o, tl, hl⟩
    walk_at "go"
    refine o_rev o (o.atL 0 rfl) fun j h2 o2 => ?_
    exact ⟨j, _, rfl, o2.head, tl.rev⟩
/-! equal lists of scalars -/
theorem allSome_map {α β : Type} (g : α → β) : ∀ l : List α, allSome (l.map fun a => some (g a)) = some (l.map g)
  | [] => rfl
  | a :: l => by simp [allSome, allSome_map g l]
structure Scal {α : Type} (S : α → Prop) (f : α → D) (g : α → PyData) : Prop where
  py : ∀ n h a, pyOf (n + 1) h (f a) = some (g a)
  lay : ∀ a, S a → PyData.canLay0 (g a) = true
  dep : ∀ a, PyData.depth (g a) = 0
  ev : ∀ a b, PyData.eqv (g a) (g b) = true ↔ a = b
theorem Scal.all {α : Type} {S : α → Prop} {f : α → D} {g : α → PyData} (c : Scal S f g) : ∀ {l : List α}, (∀ a ∈ l, S a) → PyData.canLayAll0 (l.map g) = true ∧ PyData.depthAll (l.map g) = 0
  | [], _ => ⟨rfl, rfl⟩
  | a :: l, h => by
    obtain ⟨h1, h2⟩ := c.all (l := l) fun b hb => h b (List.mem_cons_of_mem _ hb)
    simp only [List.map_cons, PyData.canLayAll0, PyData.depthAll, c.lay a (h a List.mem_cons_self), h1, c.dep, h2]
    exact ⟨rfl, rfl⟩
theorem Scal.eq {α : Type} {S : α → Prop} {f : α → D} {g : α → PyData} (c : Scal S f g) [DecidableEq α] : ∀ {l m : List α}, PyData.eqvAll (l.map g) (m.map g) = decide (l = m)
  | [], [] => rfl
  | a :: l, [] => rfl
  | [], a :: l => rfl
  | a :: l, b :: m => by
    simp only [List.map_cons, PyData.eqvAll, c.eq (l := l) (m := m)]
    rw [Bool.eq_iff_iff, Bool.and_eq_true, c.ev, decide_eq_true_iff, decide_eq_true_iff, List.cons.injEq]
theorem Scal.eqL {α : Type} {S : α → Prop} {f : α → D} {g : α → PyData} (c : Scal S f g) [DecidableEq α] {h : MH} {i j : Nat} {l m : List α} (hi : getL h i = some (l.map f)) (hj : getL h j = some (m.map f)) (hl : ∀ a ∈ l, S a) (hm : ∀ a ∈ m, S a) : eqD (.ref i) (.ref j) h = some (decide (l = m)) := by
  have py : ∀ (l : List α), (allSome ((l.map f).map (pyOf 59 h))) = some (l.map g) := fun l => by
    rw [List.map_map, ← allSome_map g l]
    congr 1
    exact List.map_congr_left fun a _ => c.py 58 h a
  have sh : ∀ (l : List α), (∀ a ∈ l, S a) → SeqAt.shaped (.list (l.map g)) = true := fun l hl => by
    obtain ⟨h1, h2⟩ := c.all hl
    simp only [SeqAt.shaped, PyData.canLay0, PyData.depth, h1, h2]
    rfl
  unfold eqD
  rw [if_neg (by simp [scalD])]
  simp only [pyOf, hi, hj, Option.bind_some, py, Option.map_some, sh l hl, sh m hm, true_and, if_true, PyData.eqv, c.eq]
theorem scal_int : Scal (fun _ => True) D.int PyData.int := ⟨fun _ _ _ => rfl, fun _ _ => rfl, fun _ => rfl, fun a b => by simp [PyData.eqv]⟩
def OkS (x : Str) : Prop := ∀ c ∈ x.cps.toList, c < 1114112
theorem scal_str : Scal OkS D.str PyData.str := ⟨fun _ _ _ => rfl, fun a h => by
  simp only [PyData.canLay0, PyData.strOk]
  rw [Array.all_eq_true']
  intro x hx
  exact decide_eq_true (h x (Array.mem_toList_iff.mpr hx)), fun _ => rfl, fun a b => by simp [PyData.eqv]⟩
theorem set_self {α : Type} {l : List α} {n : Nat} {a : α} (e : l[n]? = some a) : l.set n a = l := by
  obtain ⟨h1, h2⟩ := List.getElem?_eq_some_iff.mp e
  subst h2
  exact List.set_getElem_self h1
theorem c_next {h0 h : MH} {L : LL} (o : Own h0 h L) (n : Nat) {i : Nat} {l : List D} (e : L[n]? = some (i, l)) (tl : Tp l) {m : Int} (hm : 0 < m) : Sat (m_next_fea17 [.ref i, .int m] h) (fun d h' => ∃ v l', d = .int v ∧ 0 ≤ v ∧ v < m ∧ Tp l' ∧ Own h0 h' (L.set n (i, l'))) noX := by
  walk_at "fn"
  refine o_new o (by simp) fun j h1 o1 => ?_
  walk_at "go"
  obtain ⟨zs, rfl, hz⟩ := tl
  have e1 : ((j, []) :: L)[n + 1]? = some (i, zs.map .int) := by simpa using e
  refine w_eqK (scal_int.eqL (l := zs) (m := []) (o1.atL (n + 1) e1) (o1.atL 0 rfl) (fun _ _ => trivial) (fun _ _ => trivial)) ?_
  walk_at "go"
  refine br_d (fun c => ?_) (fun c => ?_)
  · subst c
    walk_at "go"
    refine ⟨0, [], rfl, by decide, hm, Tp.nil, ?_⟩
    rw [set_self (a := (i, [])) (by simpa using e)]
    exact o1.tail
  · walk_at "go"
    refine ⟨o1.isL (n + 1) e1, ?_⟩
    walk_at "go"
    obtain ⟨ys, y, rfl⟩ : ∃ ys y, zs = ys ++ [y] := ⟨zs.dropLast, zs.getLast c, (List.dropLast_concat_getLast c).symm⟩
    rw [List.map_append] at e1
    refine o_pop o1 (n + 1) e1 fun h2 o2 => ?_
    walk_at "go"
    have hv := mod_in y hm
    refine ⟨_, _, rfl, hv.1, hv.2, ⟨ys, rfl, fun z hz' => hz z (by simp [hz'])⟩, ?_⟩
    rw [List.set_cons_succ] at o2
    exact o2.tail
/-! names -/
def Wd (n : Nat) (x : Str) : Prop := x.length ≤ n ∧ OkS x
theorem str_len (x : Str) : x.length = x.cps.toList.length := by rw [Array.length_toList]; rfl
theorem app_cps (x y : Str) : (x ++ y).cps.toList = x.cps.toList ++ y.cps.toList := by
  show (x.cps ++ y.cps).toList = _
  rw [Array.toList_append]
theorem app_len (x y : Str) : (x ++ y).length = x.length + y.length := by rw [str_len, str_len, str_len, app_cps, List.length_append]
theorem Wd.app {a b : Nat} {x y : Str} (hx : Wd a x) (hy : Wd b y) : Wd (a + b) (x ++ y) := ⟨by rw [app_len]; exact Nat.add_le_add hx.1 hy.1, fun c hc => by
  rw [app_cps] at hc
  rcases List.mem_append.mp hc with h | h
  · exact hx.2 c h
  · exact hy.2 c h⟩
theorem Wd.cut {a : Nat} {x : Str} (hx : Wd a x) (lo hi : Option Int) : Wd a (cutS x lo hi) := ⟨Nat.le_trans (cutS_length x lo hi) hx.1, fun c hc => hx.2 c (List.mem_of_mem_drop (List.mem_of_mem_take hc))⟩
theorem Wd.sign {a : Nat} {x : Str} (hx : Wd a x) {c : Nat} (hc : c ∈ x.cps.toList) : Wd 1 ⟨#[c]⟩ := ⟨Nat.le_refl 1, fun d hd => by
  have : d = c := by simpa using hd
  subst this
  exact hx.2 _ hc⟩
theorem Wd.le {a b : Nat} {x : Str} (hx : Wd a x) (h : a ≤ b) : Wd b x := ⟨Nat.le_trans hx.1 h, hx.2⟩
theorem joinL_nil : ∀ ps : List (List Nat), TL.joinL [] ps = ps.flatten
  | [] => rfl
  | [p] => by simp [TL.joinL]
  | p :: q :: r => by simp [TL.joinL, joinL_nil (q :: r)]
theorem join_cps (ys : List Str) : (Txt.join (Str.ofString "") ys).cps.toList = (ys.map fun y => y.cps.toList).flatten := by
  have e : Txt.join (Str.ofString "") ys = Str.join (Str.ofString "") ys := StrLaws.glued_eq_join _ _
  rw [e]
  exact (TL.tl_join _ _).trans (joinL_nil _)
theorem Wd.join : ∀ {ys : List Str}, (∀ y ∈ ys, Wd 1 y) → Wd ys.length (Txt.join (Str.ofString "") ys) := fun {ys} h => by
  constructor
  · rw [str_len, join_cps]
    induction ys with
    | nil => simp
    | cons y ys ih =>
      have h1 := (h y List.mem_cons_self).1
      have h2 := ih fun z hz => h z (List.mem_cons_of_mem _ hz)
      rw [str_len] at h1
      simp only [List.map_cons, List.flatten_cons, List.length_append, List.length_cons]
      omega
  · intro c hc
    rw [join_cps] at hc
    obtain ⟨l, hl, hc⟩ := List.mem_flatten.mp hc
    obtain ⟨y, hy, rfl⟩ := List.mem_map.mp hl
    exact (h y hy).2 c hc
theorem ltrs_wd : Wd 26 (Str.ofString "abcdefghijklmnopqrstuvwxyz") := ⟨by decide +kernel, by unfold OkS; decide +kernel⟩
theorem lt_len : (Str.ofString "abcdefghijklmnopqrstuvwxyz").length = 26 := by decide +kernel
theorem w_ixM {x : Str} {n : Nat} {m i : Int} (hx : Wd n x) (hl : x.length ≤ 1000000) (hm : (x.length : Int) = m) (h0 : 0 < m) {h : MH} {Q : D → MH → Prop} {E : XE} (q : ∀ c, Wd 1 ⟨#[c]⟩ → Q (.str ⟨#[c]⟩) h) : Sat (dIx (.str x) (.int (i % m)) h) Q E := by
  obtain ⟨a, b⟩ := mod_in i h0
  obtain ⟨c, e, e2⟩ := atI_in (l := x.cps.toList) a (by rw [← str_len]; omega)
  exact w_ixS hl e (q c (hx.sign (List.mem_of_getElem? e2)))
theorem w_ixLt {i : Int} {h : MH} {Q : D → MH → Prop} {E : XE} (q : ∀ c, Wd 1 ⟨#[c]⟩ → Q (.str ⟨#[c]⟩) h) : Sat (dIx (.str (Str.ofString "abcdefghijklmnopqrstuvwxyz")) (.int (i % 26)) h) Q E :=
  w_ixM ltrs_wd (by rw [lt_len]; decide) (by rw [lt_len]; rfl) (by decide) q
def Wds (n : Nat) (l : List D) : Prop := ∃ ns : List Str, l = ns.map .str ∧ ∀ x ∈ ns, Wd n x
theorem strs_all {n : Nat} : ∀ {ys : List D}, (∀ (i : Nat) y, ys[i]? = some y → ∃ x, y = .str x ∧ Wd n x) → Wds n ys
  | [], _ => ⟨[], rfl, fun x hx => by simp at hx⟩
  | y :: ys, h => by
    obtain ⟨x, rfl, hx⟩ := h 0 y rfl
    obtain ⟨ns, rfl, hn⟩ := strs_all (ys := ys) fun i z hz => h (i + 1) z (by simpa using hz)
    refine ⟨x :: ns, rfl, fun z hz => ?_⟩
    rcases List.mem_cons.mp hz with rfl | hz
    · exact hx
    · exact hn z hz
theorem Wds.app {n : Nat} {l m : List D} (hl : Wds n l) (hm : Wds n m) : Wds n (l ++ m) := by
  obtain ⟨a, rfl, ha⟩ := hl
  obtain ⟨b, rfl, hb⟩ := hm
  refine ⟨a ++ b, by simp, fun x hx => ?_⟩
  rcases List.mem_append.mp hx with h | h
  · exact ha x h
  · exact hb x h
theorem Wds.one {n : Nat} {x : Str} (h : Wd n x) : Wds n [.str x] := ⟨[x], rfl, fun y hy => by rw [List.mem_singleton.mp hy]; exact h⟩
theorem w_addW {a b : Nat} {x y : Str} {h : MH} {Q : D → MH → Prop} {E : XE} (hx : Wd a x) (hy : Wd b y) (c : a + b ≤ 1000000) (q : Wd (a + b) (x ++ y) → Q (.str (x ++ y)) h) : Sat (dAdd (.str x) (.str y) h) Q E :=
  w_addS (by have := hx.1; have := hy.1; omega) (q (hx.app hy))
theorem c_names {c : Int} {h : MH} : Sat (m_names_c11ae [.int c] h) (fun d h' => ∃ i l, d = .ref i ∧ Own h h' [(i, l)] ∧ l.length = 9 ∧ Wds 20 l) noX := by
  walk_at "fn"
  refine ⟨rfl, ?_⟩
  walk_at "go"
  refine o_comp (fun _ y => ∃ x, y = .str x ∧ Wd 1 x) (Own.nil h) (by simp) (fun _ _ => rfl) ?_ ?_
  · intro i d h' hd _
    obtain ⟨hi, rfl⟩ := rangeD_get hd
    refine ⟨_, rfl, ?_⟩
    have hi' : i < 8 := hi
    walk_at "go"
    exact w_ixLt fun c hc => ⟨rfl, _, rfl, hc⟩
  intro ys hy hp i1 h1 o1
  obtain ⟨ns, rfl, hn⟩ := strs_all hp
  have hy8 : ns.length = 8 := by simpa using hy
  have sm : (ns.map (·.length)).sum ≤ 8 := by
    rw [← hy8]
    clear hp hy hy8 o1
    induction ns with
    | nil => simp
    | cons y ys ih =>
      have h1 := (hn y List.mem_cons_self).1
      have h2 := ih fun z hz => hn z (List.mem_cons_of_mem _ hz)
      simp only [List.map_cons, List.sum_cons, List.length_cons]
      omega
  walk_at "go"
  refine w_join (o1.atL 0 rfl) (by rw [show (Str.ofString "").length = 0 from rfl]; omega) ?_
  have hb := Wd.join hn
  rw [hy8] at hb
  generalize Txt.join (Str.ofString "") ns = base at hb
  have hbl : base.length ≤ 8 := hb.1
  walk_at "go"
  refine br_d (fun c1 => ?_) (fun c1 => ?_)
  · walk_at "go"
    refine o_comp (fun _ y => ∃ x, y = .str x ∧ Wd 20 x) o1.none (by simp) (fun _ _ => rfl) ?_ ?_
    · intro i d h' hd _
      obtain ⟨hi, rfl⟩ := rangeD_get hd
      have hi' : i < 9 := hi
      refine ⟨_, rfl, ?_⟩
      walk_at "go"
      refine w_ixLt fun c' hc => ?_
      refine w_addW (hb.cut _ _) hc (by decide) fun h5 => ?_
      walk_at "go"
      refine w_addW h5 (hb.cut _ _) (by decide) fun h6 => ?_
      exact ⟨rfl, _, rfl, h6.le (by decide)⟩
    · intro ys hy hp i2 h2 o2
      exact ⟨i2, ys, rfl, o2, by simpa using hy, strs_all hp⟩
  · walk_at "go"
    refine br_d (fun c2 => ?_) (fun c2 => ?_)
    · walk_at "go"
      refine o_comp (fun _ y => ∃ x, y = .str x ∧ Wd 20 x) o1.none (by simp) (fun _ _ => rfl) ?_ ?_
      · intro i d h' hd _
        obtain ⟨hi, rfl⟩ := rangeD_get hd
        refine ⟨_, rfl, ?_⟩
        walk_at "go"
        exact ⟨rfl, _, rfl, (hb.cut _ _).le (by decide)⟩
      intro ys hy hp i2 h2 o2
      walk_at "go"
      refine o_new o2 (by simp) fun i3 h3 o3 => ?_
      refine o_add o3 (o3.at 1 rfl) (o3.at 0 rfl) (by simp at hy; simp [hy]) fun i4 h4 o4 => ?_
      exact ⟨i4, _, rfl, o4.head, by simp at hy; simp [hy], (strs_all hp).app (.one ((hb.cut _ _).le (by decide)))⟩
    · walk_at "go"
      refine o_comp (fun _ y => ∃ x, y = .str x ∧ Wd 20 x) o1.none (by simp) (fun _ _ => rfl) ?_ ?_
      · intro i d h' hd _
        obtain ⟨hi, rfl⟩ := rangeD_get hd
        have hi' : i < 9 := hi
        refine ⟨_, rfl, ?_⟩
        walk_at "go"
        exact w_ixLt fun c hc => ⟨rfl, _, rfl, hc.le (by decide)⟩
      · intro ys hy hp i2 h2 o2
        exact ⟨i2, ys, rfl, o2, by simpa using hy, strs_all hp⟩
/-! machines -/
def InL (n : Int) (l : List D) : Prop := ∀ d ∈ l, ∃ v, d = .int v ∧ 0 ≤ v ∧ v < n
theorem InL.nil (n : Int) : InL n [] := fun d hd => by simp at hd
theorem InL.app {n : Int} {l : List D} {v : Int} (h : InL n l) (h0 : 0 ≤ v) (h1 : v < n) : InL n (l ++ [.int v]) := fun d hd => by
  rcases List.mem_append.mp hd with q | q
  · exact h d q
  · exact ⟨v, List.mem_singleton.mp q, h0, h1⟩
theorem InL.of {n : Int} {ys : List D} (h : ∀ (i : Nat) y, ys[i]? = some y → ∃ v, y = .int v ∧ 0 ≤ v ∧ v < n) : InL n ys := fun d hd => by
  obtain ⟨k, hk⟩ := List.getElem?_of_mem hd
  exact h k d hk
theorem cutD_len (l : List D) (lo hi : Option Int) : (cutD l lo hi).length ≤ l.length := by
  unfold cutD
  rw [List.length_take, List.length_drop]
  omega
theorem Wds.cut {n : Nat} {l : List D} (h : Wds n l) (lo hi : Option Int) : Wds n (cutD l lo hi) := by
  obtain ⟨ns, rfl, hn⟩ := h
  refine ⟨(ns.drop (HT.sIx ns.length 0 lo)).take (HT.sIx ns.length ns.length hi - HT.sIx ns.length 0 lo), ?_, fun x hx => hn x (List.mem_of_mem_drop (List.mem_of_mem_take hx))⟩
  unfold cutD
  rw [List.length_map, List.map_take, List.map_drop]
theorem sortS_mem {l : List Str} {x : Str} : x ∈ sortS l ↔ x ∈ l := (List.mergeSort_perm l leS).mem_iff
theorem sortS_len {l : List Str} : (sortS l).length = l.length := (List.mergeSort_perm l leS).length_eq
theorem br_mid {p : Prop} {oa ob : Out} {N T B C E} (mid : SP) (q : Br p (OS oa mid T B C E) (OS ob mid T B C E)) (k : ∀ ρ h, mid ρ h → N ρ h) : Br p (OS oa N T B C E) (OS ob N T B C E) :=
  ⟨fun n => (q.1 n).mono k (fun _ _ z => z) (fun _ _ z => z) (fun _ _ z => z) fun _ _ _ _ z => z, fun n => (q.2 n).mono k (fun _ _ z => z) (fun _ _ z => z) (fun _ _ z => z) fun _ _ _ _ z => z⟩
structure Mach (F N S T K : List D) (m : Int) : Prop where
  m1 : 1 ≤ m
  fs : Wds 20 F
  fl : F.length ≤ 9
  ns : Wds 20 N
  nl : N.length ≤ 9
  ss : InL m S
  sl : S.length = N.length + 1
  tl : (T.length : Int) = m
  ts : ∀ r ∈ T, ∃ l, r = .tup l ∧ (l.length : Int) = m ∧ InL m l
  kl : (K.length : Int) = m
  ks : InL (2 ^ F.length) K
end Mi

namespace Mi
open PySem L2
local macro_rules | `(tactic| walk_at "w") => `(tactic| first
  | with_reducible refine w_seq ?_
  | with_reducible refine w_asg ?_
  | with_reducible refine w_cons ?_
  | with_reducible refine w_nil ?_
  | with_reducible refine w_c ?_
  | ((with_reducible refine w_var (d := ?_) ?_ ?_); rotate_left; rfl)
  | with_reducible refine w_bin ?_
  | with_reducible refine w_call ?_
  | with_reducible refine w_if ?_
  | with_reducible refine w_B ?_
  | with_reducible refine w_unB ?_
  | with_reducible refine w_ret ?_
  | with_reducible refine w_drop ?_
  | with_reducible refine w_skip ?_
  | with_reducible refine w_eq (dAdd_int _ _ _) ?_
  | with_reducible refine w_eq (dSub_int _ _ _) ?_
  | with_reducible refine w_eq (dEq_int _ _ _) ?_
  | with_reducible refine w_eq (dEq_str _ _ _) ?_
  | with_reducible refine w_eq (dLt_int _ _ _) ?_
  | with_reducible refine w_eq (dLe_int _ _ _) ?_
  | with_reducible refine w_eq (dGt_int _ _ _) ?_
  | with_reducible refine w_eq (dGe_int _ _ _) ?_
  | with_reducible refine w_eq (dNe_int _ _ _) ?_
  | ((with_reducible refine w_mod ?_ ?_); (first | assumption | decide | omega))
  | ((with_reducible refine w_fdiv ?_ ?_); (first | assumption | decide | omega))
  | ((with_reducible refine w_mulS ?_ ?_); (first | decide | omega))
  | ((with_reducible refine w_addS ?_ ?_); (first | assumption | decide | omega))
  | ((with_reducible refine w_lenS ?_ ?_); (first | assumption | decide | omega))
  | ((with_reducible refine w_slS ?_ ?_); (first | assumption | decide | omega))
  | with_reducible refine w_eq (dLen_tup _ _) ?_
  | with_reducible refine w_eq (dSl_tup _ _ _ _) ?_
  | with_reducible refine w_eq (dMax_ev _ _ _) ?_
  | with_reducible refine w_eq (dMin_ev _ _ _) ?_
  | with_reducible refine w_eq (dAbs_ev _ _) ?_
  | with_reducible refine w_not ?_
  | with_reducible refine w_and ?_
  | with_reducible refine w_or ?_
  | with_reducible refine br_n ?_
  | with_reducible refine br_tt ?_
  | with_reducible refine br_ff ?_
  | ((with_reducible refine br_dt ?_ ?_); (first | assumption | omega))
  | ((with_reducible refine br_df ?_ ?_); (first | assumption | omega))
  | with_reducible refine w_tup ?_
  | ((with_reducible refine w_toTup ?_ ?_); exact (by simp))
  | with_reducible refine w_lst ?_
  | with_reducible refine w_lc ?_
  | with_reducible refine w_for ?_
  | with_reducible refine w_range1 ?_
  | with_reducible refine w_range2 ?_
  | ((with_reducible refine w_dR1 ?_ ?_); (first | decide | omega))
  | ((with_reducible refine w_dR2 ?_ ?_); (first | decide | omega))
  | with_reducible refine w_iter ?_
  | with_reducible refine w_eq (iter1_tup _ _) ?_
  | with_reducible refine w_eq (iter1_str _ _) ?_
  | with_reducible refine w_sl ?_
  | with_reducible refine w_no ?_
  | with_reducible refine w_some ?_
  | with_reducible refine w_unI ?_
  | with_reducible refine w_meth ?_
  | with_reducible refine w_isi ?_
  | with_reducible refine w_zip ?_
  | with_reducible refine w_ifE ?_
  | with_reducible refine w_andV ?_
  | with_reducible refine w_orV ?_
  | with_reducible refine w_notV ?_
  | with_reducible refine w_andK ?_
  | with_reducible refine w_orK ?_
  | with_reducible refine w_notK ?_
  | with_reducible refine w_revL ?_
  | with_reducible refine w_listRg1 ?_
  | with_reducible refine w_tindex ?_
  | with_reducible refine w_setIx ?_
  | with_reducible refine w_un ?_
  | with_reducible refine w_rev1 ?_
  | with_reducible refine w_rev2 ?_
  | with_reducible refine w_chain ?_
  | with_reducible refine w_chK ?_
  | with_reducible refine w_retN ?_
  | with_reducible refine w_brk ?_
  | with_reducible refine w_cont ?_
  | with_reducible refine w_asgT ?_
  | with_reducible refine w_eq (isi_str_str _ _) ?_
  | with_reducible refine w_eq (isi_int_int _ _) ?_
  | with_reducible refine w_eq (isi_tup_tup _ _) ?_)
local macro_rules | `(tactic| walk_at "go") => `(tactic| (repeat (walk_at "w")); try dsimp only [List.set])
local macro_rules | `(tactic| walk_at "fn") => `(tactic| ((refine w_fun ?_); simp only [startD, List.map_cons, List.map_nil, List.reduceReplicate, Nat.reduceSub, List.cons_append, List.nil_append]; walk_at "go"))
theorem Own.del {h0 h : MH} {L : LL} (o : Own h0 h L) (n : Nat) : Own h0 h (L.eraseIdx n) := o.sub (List.eraseIdx_sublist _ _)
theorem rows_app {m : Int} {T : List D} (h : ∀ r ∈ T, ∃ l, r = .tup l ∧ (l.length : Int) = m ∧ InL m l) {l : List D} (hl : (l.length : Int) = m) (hi : InL m l) : ∀ r ∈ T ++ [.tup l], ∃ l, r = .tup l ∧ (l.length : Int) = m ∧ InL m l := fun r hr => by
  rcases List.mem_append.mp hr with q | q
  · exact h r q
  · exact ⟨l, List.mem_singleton.mp q, hl, hi⟩
theorem c_machine {ns : List Int} (hb : ∀ z ∈ ns, Cell z) {h : MH} {i ip : Nat} (hl : getL h i = some (ns.map D.int)) {pl : List D} (hp : getL h ip = some pl) (hpl : pl.length = 9) (hpw : Wds 20 pl) {s m : Int} (hs : 0 ≤ s) (hm : 1 ≤ m ∧ m ≤ 8) :
    Sat (m_machine_8b383 [.ref i, .int s, .ref ip, .int m] h) (fun d h' => h <+: h' ∧ ∃ F N S T K m', d = .tup [.tup F, .tup N, .tup S, .tup T, .tup K] ∧ Mach F N S T K m' ∧ m' ≤ m) noX := by
  walk_at "fn"
  refine (c_cell_at hb hl hs).mono ?_
  rintro d h1 ⟨rfl, fst, rfl, hf⟩
  walk_at "go"
  refine o_sl (Own.nil h1) hp fun iF h2 o2 => ?_
  have hF := hpw.cut none (some (fst / 8 % 10))
  have hF9 := cutD_len pl none (some (fst / 8 % 10))
  generalize cutD pl none (some (fst / 8 % 10)) = F at *
  walk_at "go"
  refine o_sl o2 (o2.getL hp) fun iA h3 o3 => ?_
  walk_at "go"
  refine o_sl o3 (o3.atL 0 rfl) fun iB h4 o4 => ?_
  have hN := (hpw.cut (some (fst / 80 % 9)) none).cut none (some (fst / 720 % 5))
  have hN9 := Nat.le_trans (cutD_len (cutD pl (some (fst / 80 % 9)) none) none (some (fst / 720 % 5))) (cutD_len _ _ _)
  generalize cutD (cutD pl (some (fst / 80 % 9)) none) none (some (fst / 720 % 5)) = N0 at *
  obtain ⟨zs, rfl, hzs⟩ := hN
  rw [List.length_map, hpl] at hN9
  walk_at "go"
  refine o_sortS o4 (o4.atL 0 rfl) (by omega) fun iN h5 o5 => ?_
  have hNw : Wds 20 ((sortS zs).map .str) := ⟨_, rfl, fun x hx => hzs x (sortS_mem.mp hx)⟩
  have hNl : ((sortS zs).map D.str).length ≤ 9 := by rw [List.length_map, sortS_len]; exact hN9
  generalize (sortS zs).map D.str = N at *
  have hmm : 1 ≤ 1 + fst % m ∧ 1 + fst % m ≤ m := by have := mod_in fst (n := m) (by omega); omega
  generalize 1 + fst % m = mm at *
  walk_at "go"
  refine (c_cell_at hb (o5.getL hl) (by omega)).mono ?_
  rintro d h6 ⟨rfl, c1, rfl, hc1⟩
  walk_at "go"
  refine (c_tape hc1 (n := 5) (by decide)).mono ?_
  rintro d h7 ⟨iT, tl, rfl, oT, htl⟩
  have o7 := o5.trans oT
  rw [List.singleton_append] at o7
  walk_at "go"
  refine o_new o7 (by simp) fun iE h8 o8 => ?_
  walk_at "go"
  refine o_add o8 (o8.at 2 rfl) (o8.at 0 rfl) (by simp; omega) fun iM h9 o9 => ?_
  refine w_eq (iter1_ref _ _ _ (o9.atL 0 rfl)) ?_
  dsimp only
  generalize hM : N ++ [D.str (Str.ofString "")] = M at *
  have hMl : M.length = N.length + 1 := by rw [← hM]; simp
  refine o_compS (σ := List D) (fun s => [(iM, M), (iE, [D.str (Str.ofString "")]), (iT, s), (iN, N), (iB, List.map D.str zs), (iA, cutD pl (some (fst / 80 % 9)) none), (iF, F)]) (fun k acc s => Tp s ∧ InL mm acc) o9 ⟨htl, InL.nil _⟩ (by omega) (fun c acc s h' o => by simp [o.atL 1 rfl]) ?_ ?_
  · intro k d acc s c h' hd hk ⟨ht, ha⟩ o
    refine ⟨_, rfl, ?_⟩
    dsimp only [wipeD, List.set]
    walk_at "go"
    refine (c_next o 3 rfl ht (by omega)).mono ?_
    rintro d h2 ⟨v, l', rfl, v0, v1, ht', o'⟩
    exact ⟨l', o', ht', ha.app v0 v1⟩
  intro S s2 iS h10 hSl ⟨_, hS⟩ o10
  rw [hMl] at hSl
  walk_at "go"
  refine (c_cell_at hb (o10.getL hl) (by omega)).mono ?_
  rintro d h11 ⟨rfl, c2, rfl, hc2⟩
  walk_at "go"
  refine (c_tape hc2 (n := 66) (by decide)).mono ?_
  rintro d h12 ⟨iT2, tl2, rfl, oT2, htl2⟩
  have o12 := (o10.tail.tail.tail.tail).ext oT2.pre
  have o12 := o10.trans oT2
  rw [List.singleton_append] at o12
  walk_at "go"
  refine (c_next o12 0 rfl htl2 (by decide)).mono ?_
  rintro d h13 ⟨way, tl3, rfl, v0, v1, htl3, o13⟩
  dsimp only [List.set] at o13
  replace o13 := (((o13.del 2).del 2).del 2)
  dsimp only [List.eraseIdx] at o13
  replace o13 := (o13.del 3).del 3
  dsimp only [List.eraseIdx] at o13
  walk_at "go"
  refine o_new o13 (by simp) fun iP h14 o14 => ?_
  walk_at "go"
  have hmn : ((mm.toNat : Nat) : Int) = mm := by omega
  have hmn8 : mm.toNat ≤ 8 := by omega
  refine w_loop0 (fun k ρ h' => ∃ o12 o14 ps tl, ρ = [some (.ref i), some (.int s), some (.ref ip), some (.int m), some (.int fst), some (.int mm), some (.ref iF), some (.ref iN), some (.ref iT2), some (.ref iS), some (.int way), some (.ref iP), o12, none, o14, none, none] ∧ Own h1 h' [(iP, ps), (iT2, tl), (iS, S), (iN, N), (iF, F)] ∧ Tp tl ∧ ps.length = k ∧ ∀ r ∈ ps, ∃ l, r = .tup l ∧ (l.length : Int) = mm ∧ InL mm l) ⟨none, none, [], _, rfl, o14, htl3, rfl, fun r hr => by simp at hr⟩ (fun _ _ _ _ => rfl) ?_ ?_
  · rintro p d ρ h' hd ⟨o12', o14', ps, tl, rfl, o, ht, hps, hrows⟩
    obtain ⟨hp8, rfl⟩ := rangeD_get hd
    refine ⟨_, rfl, ?_⟩
    dsimp only [List.set]
    walk_at "go"
    refine o_compS (σ := List D) (fun s => [(iP, ps), (iT2, s), (iS, S), (iN, N), (iF, F)]) (fun k acc s => Tp s ∧ InL mm acc) o ⟨ht, InL.nil _⟩ (by simp; omega) (fun c acc s h' o => rfl) ?_ ?_
    · intro k d acc s c h' hd hk ⟨ht, ha⟩ o
      refine ⟨_, rfl, ?_⟩
      dsimp only [wipeD, List.set]
      walk_at "go"
      refine (c_next o 2 rfl ht (by omega)).mono ?_
      rintro d h2 ⟨v, l', rfl, v0, v1, ht', o'⟩
      exact ⟨l', o', ht', ha.app v0 v1⟩
    intro row tl' iR h15 hrl ⟨ht', hri⟩ o15
    rw [rangeD_length] at hrl
    walk_at "go"
    refine br_mid (fun ρ h' => ∃ iR row, ρ = [some (.ref i), some (.int s), some (.ref ip), some (.int m), some (.int fst), some (.int mm), some (.ref iF), some (.ref iN), some (.ref iT2), some (.ref iS), some (.int way), some (.ref iP), some (.int (0 + (p : Int))), none, some (.ref iR), none, none] ∧ Own h1 h' [(iR, row), (iP, ps), (iT2, tl'), (iS, S), (iN, N), (iF, F)] ∧ row.length = mm.toNat ∧ InL mm row) ?_ ?_
    · refine br_d (fun c => ?_) (fun c => ?_)
      · walk_at "go"
        refine o_comp (fun _ y => ∃ v, y = .int v ∧ 0 ≤ v ∧ v < mm) o15 (by simp; omega) (fun _ _ => rfl) ?_ ?_
        · intro k d h' hd _
          obtain ⟨hk, rfl⟩ := rangeD_get hd
          refine ⟨_, rfl, ?_⟩
          dsimp only [wipeD, List.set]
          walk_at "go"
          have := mod_in (0 + (p : Int) + (0 + (k : Int)) + 1) (n := mm) (by omega)
          exact ⟨rfl, _, rfl, this.1, this.2⟩
        · intro ys hy hpp i2 h2 o2
          exact ⟨i2, ys, rfl, (o2.del 1), by simpa using hy, InL.of hpp⟩
      · walk_at "go"
        exact ⟨_, _, rfl, o15, hrl, hri⟩
    rintro ρ h16 ⟨iR2, row2, rfl, o16, hrl2, hri2⟩
    walk_at "go"
    refine br_mid (fun ρ h' => ∃ iR row, ρ = [some (.ref i), some (.int s), some (.ref ip), some (.int m), some (.int fst), some (.int mm), some (.ref iF), some (.ref iN), some (.ref iT2), some (.ref iS), some (.int way), some (.ref iP), some (.int (0 + (p : Int))), none, some (.ref iR), none, none] ∧ Own h1 h' [(iR, row), (iP, ps), (iT2, tl'), (iS, S), (iN, N), (iF, F)] ∧ row.length = mm.toNat ∧ InL mm row) ?_ ?_
    · refine br_d (fun c => ?_) (fun c => ?_)
      · walk_at "go"
        refine o_comp (fun _ y => ∃ v, y = .int v ∧ 0 ≤ v ∧ v < mm) o16 (by simp; omega) (fun _ _ => rfl) ?_ ?_
        · intro k d h' hd _
          obtain ⟨hk, rfl⟩ := rangeD_get hd
          refine ⟨_, rfl, ?_⟩
          dsimp only [wipeD, List.set]
          walk_at "go"
          exact ⟨rfl, _, rfl, by split <;> omega, by split <;> omega⟩
        · intro ys hy hpp i2 h2 o2
          exact ⟨i2, ys, rfl, (o2.del 1), by simpa using hy, InL.of hpp⟩
      · walk_at "go"
        exact ⟨_, _, rfl, o16, hrl2, hri2⟩
    rintro ρ h17 ⟨iR3, row3, rfl, o17, hrl3, hri3⟩
    walk_at "go"
    refine br_mid (fun ρ h' => ∃ iR row, ρ = [some (.ref i), some (.int s), some (.ref ip), some (.int m), some (.int fst), some (.int mm), some (.ref iF), some (.ref iN), some (.ref iT2), some (.ref iS), some (.int way), some (.ref iP), some (.int (0 + (p : Int))), none, some (.ref iR), none, none] ∧ Own h1 h' [(iR, row), (iP, ps), (iT2, tl'), (iS, S), (iN, N), (iF, F)] ∧ row.length = mm.toNat ∧ InL mm row) ?_ ?_
    · refine br_d (fun c => ?_) (fun c => ?_)
      · walk_at "go"
        obtain ⟨d0, e0, e0'⟩ := atI_in (l := row3) (i := 0) (by decide) (by omega)
        obtain ⟨v, rfl, hv⟩ := hri3 d0 (List.mem_of_getElem? e0')
        refine o_comp (fun _ y => ∃ v, y = .int v ∧ 0 ≤ v ∧ v < mm) o17 (by simp; omega) (fun _ _ => rfl) ?_ ?_
        · intro k d h' hd hpre
          obtain ⟨hk, rfl⟩ := rangeD_get hd
          refine ⟨_, rfl, ?_⟩
          dsimp only [wipeD, List.set]
          walk_at "go"
          refine w_ixL (pre_getL hpre (o17.atL 0 rfl)) e0 ?_
          walk_at "go"
          have h1 := mod_in v (n := 2) (by decide)
          have h2 : 0 ≤ v % 2 * (0 + (k : Int)) := Int.mul_nonneg h1.1 (by omega)
          exact ⟨rfl, _, rfl, by split <;> omega, by split <;> omega⟩
        · intro ys hy hpp i2 h2 o2
          exact ⟨i2, ys, rfl, (o2.del 1), by simpa using hy, InL.of hpp⟩
      · walk_at "go"
        exact ⟨_, _, rfl, o17, hrl3, hri3⟩
    rintro ρ h18 ⟨iR4, row4, rfl, o18, hrl4, hri4⟩
    walk_at "go"
    refine ⟨o18.isL 1 rfl, ?_⟩
    walk_at "go"
    refine w_tupL (o18.atL 0 rfl) ?_
    walk_at "go"
    refine o_app o18 1 rfl (by omega) fun h19 o19 => ?_
    exact ⟨_, _, _, _, rfl, o19.tail, ht', by simp [hps], rows_app hrows (by omega) hri4⟩
  rintro ρ h20 ⟨o12', o14', T, tl4, rfl, o20, _, hT, hrows⟩
  rw [rangeD_length] at hT
  walk_at "go"
  refine (c_cell_at hb (o20.getL hl) (by omega)).mono ?_
  rintro d h21 ⟨rfl, c3, rfl, hc3⟩
  walk_at "go"
  refine (c_tape hc3 (n := 8) (by decide)).mono ?_
  rintro d h22 ⟨iT3, tl5, rfl, oT3, htl5⟩
  have o22 := o20.trans oT3
  rw [List.singleton_append] at o22
  walk_at "go"
  refine o_compS (σ := List D) (fun s => [(iT3, s), (iP, T), (iT2, tl4), (iS, S), (iN, N), (iF, F)]) (fun k acc s => Tp s ∧ InL (2 ^ F.length) acc) o22 ⟨htl5, InL.nil _⟩ (by simp; omega) (fun c acc s h' o => rfl) ?_ ?_
  · intro k d acc s c h' hd hk ⟨ht, ha⟩ o
    refine ⟨_, rfl, ?_⟩
    dsimp only [wipeD, List.set]
    walk_at "go"
    refine w_lenL (o.atL 6 rfl) ?_
    walk_at "go"
    refine w_shl (by omega) ?_
    walk_at "go"
    rw [Int.one_mul]
    refine (c_next o 1 rfl ht (Int.pow_pos (by decide))).mono ?_
    rintro d h2 ⟨v, l', rfl, v0, v1, ht', o'⟩
    exact ⟨l', o', ht', ha.app v0 v1⟩
  intro K tl6 iK h23 hKl ⟨_, hK⟩ o23
  rw [rangeD_length] at hKl
  walk_at "go"
  refine w_tupL (o23.atL 6 rfl) ?_
  walk_at "go"
  refine w_tupL (o23.atL 5 rfl) ?_
  walk_at "go"
  refine w_tupL (o23.atL 4 rfl) ?_
  walk_at "go"
  refine w_tupL (o23.atL 2 rfl) ?_
  walk_at "go"
  refine w_tupL (o23.atL 0 rfl) ?_
  walk_at "go"
  exact ⟨o23.pre, _, _, _, _, _, mm, rfl, ⟨hmm.1, hF, by omega, hNw, hNl, hS, hSl, by omega, hrows, by omega, hK⟩, hmm.2⟩
end Mi

namespace Mi
open PySem L2
def m_cell_at_5ae90 : List D → MH → R D := mFun 2 3
 (mSeq (mAsg 2 (mC (.int 0)))
 (mSeq (mIf (mB (mBin dLt (mVar 1) (mCall dLen (mCons (mVar 0) (mNil)))))
 (mAsg 2 (mCall dAbs (mCons (mBin dIx (mVar 0) (mVar 1)) (mNil))))
 (mSkip))
 (mSeq (mIf (mB (mBin dLt (mVar 2) (mBin dPow (mC (.int 10)) (mC (.int 18)))))
 (mRet (mBin dMod (mVar 2) (mC (.int 2147483647))))
 (mSkip))
 (mRet (mVar 2)))))
def m_cells_64c71 : List D → MH → R D := mFun 3 7
 (mSeq (mAsg 3 (mCall (m_cell_at_5ae90) (mCons (mVar 0) (mCons (mVar 1) (mNil)))))
 (mSeq (mIf (mB (mBin dNe (mBin dMod (mVar 3) (mC (.int 3))) (mC (.int 1))))
 (mRet (mLc (mRange1 (mCall dMax (mCons (mC (.int 1)) (mCons (mCall dMin (mCons (mVar 2) (mCons (mBin dSub (mCall dLen (mCons (mVar 0) (mNil))) (mVar 1)) (mNil)))) (mNil))))) (mgName 6) (mYes) (mCall (m_cell_at_5ae90) (mCons (mVar 0) (mCons (mBin dAdd (mVar 1) (mVar 6)) (mNil)))) [6]))
 (mSkip))
 (mSeq (mAsg 4 (mVar 3))
 (mSeq (mAsg 5 (mLst (mNil)))
 (mSeq (mFor (mRange1 (mBin dAdd (mC (.int 1)) (mBin dMod (mBin dFdiv (mVar 3) (mC (.int 3))) (mVar 2)))) (mgName 6)
 (mSeq (mAsg 4 (mBin dMod (mBin dAdd (mBin dAdd (mBin dMul (mVar 4) (mC (.int 48271))) (mC (.int 12345))) (mVar 6)) (mC (.int 2147483647))))
 (mDrop (mMeth isListD dAppend (mVar 5) (mCons (mVar 4) (mNil))))))
 (mRet (mVar 5)))))))
def m_parents_ea8fe : List D → MH → R D := mFun 1 6
 (mSeq (mAsg 1 (mBin dMod (mBin dIx (mVar 0) (mC (.int 0))) (mC (.int 4))))
 (mSeq (mAsg 2 (mLst (mCons (mC (.int 0)) (mNil))))
 (mSeq (mFor (mRange2 (mC (.int 1)) (mCall dLen (mCons (mVar 0) (mNil)))) (mgName 3)
 (mSeq (mAsg 4 (mBin dFdiv (mBin dMod (mBin dMul (mBin dIx (mVar 0) (mVar 3)) (mC (.int 16807))) (mC (.int 2147483629))) (mC (.int 5))))
 (mSeq (mAsg 5 (mBin dMod (mVar 4) (mVar 3)))
 (mSeq (mIf (mB (mBin dEq (mVar 1) (mC (.int 0))))
 (mAsg 5 (mBin dMod (mVar 4) (mCall dMin (mCons (mVar 3) (mCons (mC (.int 2)) (mNil))))))
 (mSkip))
 (mSeq (mIf (mB (mBin dEq (mVar 1) (mC (.int 1))))
 (mAsg 5 (mBin dSub (mBin dSub (mVar 3) (mC (.int 1))) (mBin dMod (mVar 4) (mCall dMin (mCons (mVar 3) (mCons (mC (.int 2)) (mNil)))))))
 (mSkip))
 (mSeq (mIf (mB (mBin dEq (mVar 1) (mC (.int 2))))
 (mAsg 5 (mBin dMod (mVar 4) (mCall dMin (mCons (mVar 3) (mCons (mC (.int 4)) (mNil))))))
 (mSkip))
 (mSeq (mIf (mB (mBin dGe (mBin dIx (mVar 0) (mVar 3)) (mBin dPow (mC (.int 10)) (mC (.int 18)))))
 (mAsg 5 (mBin dMod (mBin dFdiv (mBin dIx (mVar 0) (mVar 3)) (mBin dMul (mC (.int 8)) (mBin dPow (mC (.int 26)) (mC (.int 8))))) (mVar 3)))
 (mSkip))
 (mDrop (mMeth isListD dAppend (mVar 2) (mCons (mBin dSub (mBin dSub (mVar 3) (mC (.int 1))) (mVar 5)) (mNil)))))))))))
 (mRet (mVar 2)))))
def m_spelled_7a0ca : List D → MH → R D := mFun 2 4
 (mSeq (mAsg 2 (mC (.str (Str.ofString ""))))
 (mSeq (mFor (mRange1 (mVar 1)) (mgName 3)
 (mSeq (mAsg 2 (mBin dAdd (mVar 2) (mBin dIx (mC (.str (Str.ofString "abcdefghijklmnopqrstuvwxyz"))) (mBin dMod (mVar 0) (mC (.int 26))))))
 (mAsg 0 (mBin dFdiv (mVar 0) (mC (.int 26))))))
 (mRet (mVar 2))))
def m_name_35a2d : List D → MH → R D := mFun 1 7
 (mSeq (mAsg 1 (mC (.str (Str.ofString "abcdefghijklmnopqrstuvwxyz"))))
 (mSeq (mAsg 2 (mBin dAdd (mC (.int 1)) (mBin dMod (mVar 0) (mC (.int 8)))))
 (mSeq (mIf (mB (mBin dGe (mVar 0) (mBin dPow (mC (.int 10)) (mC (.int 18)))))
 (mRet (mCall (m_spelled_7a0ca) (mCons (mBin dFdiv (mVar 0) (mC (.int 8))) (mCons (mVar 2) (mNil)))))
 (mSkip))
 (mSeq (mIf (mB (mBin dEq (mBin dMod (mBin dFdiv (mVar 0) (mC (.int 8))) (mC (.int 2))) (mC (.int 0))))
 (mSeq (mAsg 6 (mBin dMod (mBin dFdiv (mVar 0) (mC (.int 16))) (mVar 2)))
 (mRet (mBin dAdd (mBin dAdd (mBin dMul (mC (.str (Str.ofString "n"))) (mVar 6)) (mBin dIx (mVar 1) (mBin dMod (mBin dFdiv (mVar 0) (mC (.int 128))) (mC (.int 26))))) (mBin dMul (mC (.str (Str.ofString "n"))) (mBin dSub (mBin dSub (mVar 2) (mC (.int 1))) (mVar 6))))))
 (mSkip))
 (mSeq (mAsg 3 (mVar 0))
 (mSeq (mAsg 4 (mC (.str (Str.ofString ""))))
 (mSeq (mFor (mRange1 (mVar 2)) (mgName 5)
 (mSeq (mAsg 3 (mBin dMod (mBin dAdd (mBin dMul (mVar 3) (mC (.int 69621))) (mC (.int 12345))) (mC (.int 2147483647))))
 (mAsg 4 (mBin dAdd (mVar 4) (mBin dIx (mVar 1) (mBin dMod (mBin dFdiv (mVar 3) (mC (.int 7))) (mC (.int 26))))))))
 (mRet (mVar 4)))))))))
def m_docs_a9091 : List D → MH → R D := mFun 2 5
 (mSeq (mAsg 2 (mLc (mIter (mVar 0)) (mgName 4) (mYes) (mTup (mNil)) [4]))
 (mSeq (mAsg 3 (mCall dList (mCons (mVar 0) (mNil))))
 (mSeq (mFor (mRev1 (mCall dLen (mCons (mVar 0) (mNil)))) (mgName 4)
 (mSeq (mSetIx (mVar 3) (mVar 4) (mTup (mCons (mCall (m_name_35a2d) (mCons (mBin dIx (mVar 0) (mVar 4)) (mNil))) (mCons (mBin dIx (mVar 2) (mVar 4)) (mNil)))))
 (mIf (mB (mBin dGt (mVar 4) (mC (.int 0))))
 (mSetIx (mVar 2) (mBin dIx (mVar 1) (mVar 4)) (mBin dAdd (mTup (mCons (mBin dIx (mVar 3) (mVar 4)) (mNil))) (mBin dIx (mVar 2) (mBin dIx (mVar 1) (mVar 4)))))
 (mSkip))))
 (mRet (mVar 3)))))
def m_places_4e2eb : List D → MH → R D := mFun 1 5
 (mSeq (mAsg 1 (mLst (mCons (mTup (mNil)) (mNil))))
 (mSeq (mAsg 2 (mLc (mIter (mVar 0)) (mgName 3) (mYes) (mC (.int 0)) [3]))
 (mSeq (mFor (mRange2 (mC (.int 1)) (mCall dLen (mCons (mVar 0) (mNil)))) (mgName 3)
 (mSeq (mAsg 4 (mBin dIx (mVar 0) (mVar 3)))
 (mSeq (mDrop (mMeth isListD dAppend (mVar 1) (mCons (mBin dAdd (mBin dIx (mVar 1) (mVar 4)) (mTup (mCons (mBin dIx (mVar 2) (mVar 4)) (mNil)))) (mNil))))
 (mSetIx (mVar 2) (mVar 4) (mBin dAdd (mBin dIx (mVar 2) (mVar 4)) (mC (.int 1)))))))
 (mRet (mVar 1)))))
def m_same_49f62 : Nat → List D → MH → R D
 | 0 => fun _ _ => .bad
 | n + 1 => mFun 2 3
    (mSeq (mIf (mOr (mNot (mB (mIsi "tuple" (mVar 0)))) (mOr (mB (mBin dNe (mCall dLen (mCons (mVar 0) (mNil))) (mC (.int 2)))) (mOr (mNot (mB (mIsi "str" (mBin dIx (mVar 0) (mC (.int 0)))))) (mB (mBin dNe (mBin dIx (mVar 0) (mC (.int 0))) (mBin dIx (mVar 1) (mC (.int 0))))))))
     (mRet (mC (.bl false)))
     (mSkip))
     (mSeq (mIf (mOr (mNot (mB (mIsi "tuple" (mBin dIx (mVar 0) (mC (.int 1)))))) (mB (mBin dNe (mCall dLen (mCons (mBin dIx (mVar 0) (mC (.int 1))) (mNil))) (mCall dLen (mCons (mBin dIx (mVar 1) (mC (.int 1))) (mNil))))))
     (mRet (mC (.bl false)))
     (mSkip))
     (mSeq (mFor (mRange1 (mCall dLen (mCons (mBin dIx (mVar 1) (mC (.int 1))) (mNil)))) (mgName 2)
     (mIf (mNot (mB (mCall (m_same_49f62 n) (mCons (mBin dIx (mBin dIx (mVar 0) (mC (.int 1))) (mVar 2)) (mCons (mBin dIx (mBin dIx (mVar 1) (mC (.int 1))) (mVar 2)) (mNil))))))
     (mRet (mC (.bl false)))
     (mSkip)))
     (mRet (mC (.bl true))))))
def m_has_place_519f1 : List D → MH → R D := mFun 2 3
 (mSeq (mFor (mIter (mVar 1)) (mgName 2)
 (mSeq (mIf (mOr (mB (mBin dLt (mVar 2) (mC (.int 0)))) (mB (mBin dGe (mVar 2) (mCall dLen (mCons (mBin dIx (mVar 0) (mC (.int 1))) (mNil))))))
 (mRet (mC (.bl false)))
 (mSkip))
 (mAsg 0 (mBin dIx (mBin dIx (mVar 0) (mC (.int 1))) (mVar 2)))))
 (mRet (mC (.bl true))))
def m_at_place_30582 : List D → MH → R D := mFun 2 3
 (mSeq (mIf (mNot (mB (mCall (m_has_place_519f1) (mCons (mVar 0) (mCons (mVar 1) (mNil))))))
 (mRaise (Str.ofString "NoPlace") (Str.ofString "place") (mVar 1))
 (mSkip))
 (mSeq (mFor (mIter (mVar 1)) (mgName 2)
 (mAsg 0 (mBin dIx (mBin dIx (mVar 0) (mC (.int 1))) (mVar 2))))
 (mRet (mVar 0))))
def m_refused_f0187 : List D → MH → R D := mFun 2 4
 (mSeq (mAsg 2 (mC .non))
 (mSeq (mTryK [((Str.ofString "NoPlace"), true)] 3 2 (mDrop (mCall (m_at_place_30582) (mCons (mVar 0) (mCons (mVar 1) (mNil))))))
 (mSeq (mIf (mOr (mB (mBin dIsN (mVar 2) (mC .non))) (mOr (mNot (mB (mIsi "tuple" (mXf [(Str.ofString "NoPlace")] (Str.ofString "place") (mVar 2))))) (mB (mBin dNe (mXf [(Str.ofString "NoPlace")] (Str.ofString "place") (mVar 2)) (mVar 1)))))
 (mRet (mC (.bl false)))
 (mSkip))
 (mSeq (mIf (mOr (mNot (mB (mIsX [((Str.ofString "NoPlace"), true)] (mVar 2)))) (mNot (mB (mIsX [((Str.ofString "NoPlace"), true)] (mVar 2)))))
 (mRet (mC (.bl false)))
 (mSkip))
 (mSeq (mIf (mB (mIsX [((Str.ofString "NoPlace"), false)] (mVar 2)))
 (mRet (mC (.bl false)))
 (mSkip))
 (mRet (mNotV (mIsX [((Str.ofString "NoPlace"), false)] (mVar 2)))))))))
def m_law_5abcd : List D → MH → R D := mFun 1 10
 (mSeq (mAsg 1 (mCall (m_cells_64c71) (mCons (mVar 0) (mCons (mC (.int 1)) (mCons (mC (.int 40)) (mNil))))))
 (mSeq (mAsg 2 (mCall (m_parents_ea8fe) (mCons (mVar 1) (mNil))))
 (mSeq (mAsg 3 (mCall (m_docs_a9091) (mCons (mVar 1) (mCons (mVar 2) (mNil)))))
 (mSeq (mAsg 4 (mCall (m_places_4e2eb) (mCons (mVar 2) (mNil))))
 (mSeq (mAsg 5 (mCall (m_cell_at_5ae90) (mCons (mVar 0) (mCons (mC (.int 0)) (mNil)))))
 (mSeq (mFor (mRange1 (mCall dLen (mCons (mVar 3) (mNil)))) (mgName 6)
 (mSeq (mAsg 7 (mBin dIx (mVar 4) (mVar 6)))
 (mSeq (mAsg 8 (mBin dAdd (mCall dLen (mCons (mBin dIx (mBin dIx (mVar 3) (mVar 6)) (mC (.int 1))) (mNil))) (mBin dMod (mBin dAdd (mBin dMul (mVar 5) (mC (.int 48271))) (mBin dMul (mVar 6) (mVar 6))) (mC (.int 1000000007)))))
 (mSeq (mFor (mIter (mLst (mCons (mTup (mCons (mCall dLen (mCons (mBin dIx (mBin dIx (mVar 3) (mVar 6)) (mC (.int 1))) (mNil))) (mNil))) (mCons (mTup (mCons (mVar 8) (mNil))) (mCons (mTup (mCons (mBin dSub (mBin dSub (mC (.int 0)) (mC (.int 1))) (mBin dMod (mVar 5) (mC (.int 70)))) (mNil))) (mCons (mTup (mCons (mVar 8) (mCons (mC (.int 0)) (mNil)))) (mCons (mTup (mCons (mUn dNeg (mC (.int 1))) (mCons (mC (.int 0)) (mNil)))) (mNil)))))))) (mgName 9)
 (mIf (mNot (mB (mCall (m_refused_f0187) (mCons (mBin dIx (mVar 3) (mC (.int 0))) (mCons (mBin dAdd (mVar 7) (mVar 9)) (mNil))))))
 (mRet (mC (.bl false)))
 (mSkip)))
 (mIf (mNot (mB (mCall (m_same_49f62 100) (mCons (mCall (m_at_place_30582) (mCons (mBin dIx (mVar 3) (mC (.int 0))) (mCons (mVar 7) (mNil)))) (mCons (mBin dIx (mVar 3) (mVar 6)) (mNil))))))
 (mRet (mC (.bl false)))
 (mSkip))))))
 (mRet (mC (.bl true)))))))))
end Mi

namespace Mi
open PySem L2
local macro_rules | `(tactic| walk_at "gl") => `(tactic| first
  | assumption
  | (refine Own.atL (h0 := ?_) (L := ?_) ?_ 0 ?_; rotate_left; rotate_left; assumption; rfl)
  | (refine Own.atL (h0 := ?_) (L := ?_) ?_ 1 ?_; rotate_left; rotate_left; assumption; rfl)
  | (refine Own.atL (h0 := ?_) (L := ?_) ?_ 2 ?_; rotate_left; rotate_left; assumption; rfl)
  | (refine Own.atL (h0 := ?_) (L := ?_) ?_ 3 ?_; rotate_left; rotate_left; assumption; rfl)
  | (refine Own.atL (h0 := ?_) (L := ?_) ?_ 4 ?_; rotate_left; rotate_left; assumption; rfl)
  | (refine Own.atL (h0 := ?_) (L := ?_) ?_ 5 ?_; rotate_left; rotate_left; assumption; rfl)
  | (refine Own.atL (h0 := ?_) (L := ?_) ?_ 6 ?_; rotate_left; rotate_left; assumption; rfl)
  | (refine Own.atL (h0 := ?_) (L := ?_) ?_ 7 ?_; rotate_left; rotate_left; assumption; rfl)
  | (refine Own.atL (h0 := ?_) (L := ?_) ?_ 8 ?_; rotate_left; rotate_left; assumption; rfl)
  | (refine Own.atL (h0 := ?_) (L := ?_) ?_ 9 ?_; rotate_left; rotate_left; assumption; rfl)
  | (refine Own.getL (h0 := ?_) (L := ?_) ?_ ?_; rotate_left; rotate_left; assumption; assumption))
local macro_rules | `(tactic| walk_at "il") => `(tactic| first
  | (refine Own.isL (h0 := ?_) (L := ?_) (l := ?_) ?_ 0 ?_; rotate_left; rotate_left; rotate_left; assumption; rfl)
  | (refine Own.isL (h0 := ?_) (L := ?_) (l := ?_) ?_ 1 ?_; rotate_left; rotate_left; rotate_left; assumption; rfl)
  | (refine Own.isL (h0 := ?_) (L := ?_) (l := ?_) ?_ 2 ?_; rotate_left; rotate_left; rotate_left; assumption; rfl)
  | (refine Own.isL (h0 := ?_) (L := ?_) (l := ?_) ?_ 3 ?_; rotate_left; rotate_left; rotate_left; assumption; rfl)
  | (refine Own.isL (h0 := ?_) (L := ?_) (l := ?_) ?_ 4 ?_; rotate_left; rotate_left; rotate_left; assumption; rfl)
  | (refine Own.isL (h0 := ?_) (L := ?_) (l := ?_) ?_ 5 ?_; rotate_left; rotate_left; rotate_left; assumption; rfl)
  | (refine Own.isL (h0 := ?_) (L := ?_) (l := ?_) ?_ 6 ?_; rotate_left; rotate_left; rotate_left; assumption; rfl)
  | (refine Own.isL (h0 := ?_) (L := ?_) (l := ?_) ?_ 7 ?_; rotate_left; rotate_left; rotate_left; assumption; rfl)
  | (refine Own.isL (h0 := ?_) (L := ?_) (l := ?_) ?_ 8 ?_; rotate_left; rotate_left; rotate_left; assumption; rfl)
  | (refine Own.isL (h0 := ?_) (L := ?_) (l := ?_) ?_ 9 ?_; rotate_left; rotate_left; rotate_left; assumption; rfl))
local macro_rules | `(tactic| walk_at "bd") => `(tactic| first | assumption | omega | (simp; done) | (simp; omega) | (simp [*]; done) | (simp [*]; omega))
local macro_rules | `(tactic| walk_at "w") => `(tactic| first
  | with_reducible refine w_seq ?_
  | with_reducible refine w_asg ?_
  | with_reducible refine w_cons ?_
  | with_reducible refine w_nil ?_
  | with_reducible refine w_c ?_
  | ((with_reducible refine w_var (d := ?_) ?_ ?_); rotate_left; rfl)
  | with_reducible refine w_bin ?_
  | with_reducible refine w_call ?_
  | with_reducible refine w_if ?_
  | with_reducible refine w_B ?_
  | with_reducible refine w_unB ?_
  | with_reducible refine w_ret ?_
  | with_reducible refine w_drop ?_
  | with_reducible refine w_skip ?_
  | with_reducible refine w_eq (dAdd_int _ _ _) ?_
  | with_reducible refine w_eq (dSub_int _ _ _) ?_
  | with_reducible refine w_eq (dEq_int _ _ _) ?_
  | with_reducible refine w_eq (dEq_str _ _ _) ?_
  | with_reducible refine w_eq (dNe_strs _ _ _) ?_
  | with_reducible refine w_eq (dEq_bls _ _ _) ?_
  | with_reducible refine w_eq (dNe_bls _ _ _) ?_
  | with_reducible refine w_eq (dLt_int _ _ _) ?_
  | with_reducible refine w_eq (dLe_int _ _ _) ?_
  | with_reducible refine w_eq (dGt_int _ _ _) ?_
  | with_reducible refine w_eq (dGe_int _ _ _) ?_
  | with_reducible refine w_eq (dNe_int _ _ _) ?_
  | ((with_reducible refine w_mod ?_ ?_); (first | assumption | decide | omega))
  | ((with_reducible refine w_fdiv ?_ ?_); (first | assumption | decide | omega))
  | ((with_reducible refine w_mulS ?_ ?_); (first | decide | omega))
  | ((with_reducible refine w_addS ?_ ?_); (first | assumption | decide | omega))
  | ((with_reducible refine w_lenS ?_ ?_); (first | assumption | decide | omega))
  | ((with_reducible refine w_slS ?_ ?_); (first | assumption | decide | omega))
  | with_reducible refine w_lenTm ?_
  | with_reducible refine w_eq (dLen_tup _ _) ?_
  | with_reducible refine w_eq (dSl_tup _ _ _ _) ?_
  | with_reducible refine w_eq (dMax_ev _ _ _) ?_
  | with_reducible refine w_eq (dMin_ev _ _ _) ?_
  | with_reducible refine w_eq (dAbs_ev _ _) ?_
  | with_reducible refine w_not ?_
  | with_reducible refine w_and ?_
  | with_reducible refine w_or ?_
  | with_reducible refine br_n ?_
  | with_reducible refine br_tt ?_
  | with_reducible refine br_ff ?_
  | ((with_reducible refine br_dt ?_ ?_); (first | assumption | omega | rfl))
  | ((with_reducible refine br_df ?_ ?_); (first | assumption | omega))
  | with_reducible refine w_tup ?_
  | ((with_reducible refine w_toTup ?_ ?_); exact (by simp))
  | with_reducible refine w_lst ?_
  | with_reducible refine w_lc ?_
  | with_reducible refine w_for ?_
  | with_reducible refine w_range1 ?_
  | with_reducible refine w_range2 ?_
  | ((with_reducible refine w_dR1 ?_ ?_); (first | decide | omega))
  | ((with_reducible refine w_dR2 ?_ ?_); (first | decide | omega))
  | with_reducible refine w_iter ?_
  | with_reducible refine w_eq (iter1_tup _ _) ?_
  | with_reducible refine w_eq (iter1_str _ _) ?_
  | with_reducible refine w_sl ?_
  | with_reducible refine w_no ?_
  | with_reducible refine w_some ?_
  | with_reducible refine w_unI ?_
  | with_reducible refine w_meth ?_
  | with_reducible refine w_isi ?_
  | with_reducible refine w_zip ?_
  | with_reducible refine w_ifE ?_
  | with_reducible refine w_andV ?_
  | with_reducible refine w_orV ?_
  | with_reducible refine w_notV ?_
  | with_reducible refine w_andK ?_
  | with_reducible refine w_orK ?_
  | with_reducible refine w_notK ?_
  | with_reducible refine w_revL ?_
  | with_reducible refine w_listRg1 ?_
  | with_reducible refine w_tindex ?_
  | with_reducible refine w_setIx ?_
  | with_reducible refine w_un ?_
  | with_reducible refine w_rev1 ?_
  | with_reducible refine w_rev2 ?_
  | with_reducible refine w_chain ?_
  | with_reducible refine w_chK ?_
  | with_reducible refine w_retN ?_
  | with_reducible refine w_brk ?_
  | with_reducible refine w_cont ?_
  | with_reducible refine w_asgT ?_
  | with_reducible refine w_eq (isi_str_str _ _) ?_
  | with_reducible refine w_eq (isi_int_int _ _) ?_
  | with_reducible refine w_eq (isi_tup_tup _ _) ?_
  | with_reducible refine w_eq (isi_bool_int _ _) ?_
  | with_reducible refine w_eq (isi_str_int _ _) ?_
  | ((with_reducible refine w_lenLm (α := ?_) (f := ?_) (l := ?_) ?_ ?_); rotate_left; rotate_left; rotate_left; walk_at "gl")
  | ((with_reducible refine w_lenL (l := ?_) ?_ ?_); rotate_left; walk_at "gl")
  | ((with_reducible refine w_iterL (l := ?_) ?_ ?_); rotate_left; walk_at "gl"; dsimp only)
  | ((with_reducible refine w_tupL (l := ?_) ?_ ?_); rotate_left; walk_at "gl")
  | ((with_reducible refine w_ixT (d := ?_) ?_ ?_); rotate_left; (first | with_reducible assumption | rfl))
  | ((with_reducible refine w_ixL (l := ?_) (d := ?_) ?_ ?_ ?_); rotate_left; rotate_left; walk_at "gl"; (first | with_reducible assumption | rfl))
  | ((with_reducible refine w_addT ?_ ?_); walk_at "bd")
  | ((with_reducible refine ⟨?_, ?_⟩); (with_reducible (show isListD (.ref _) _ = true)); walk_at "il")
  | with_reducible refine w_tryK ?_
  | with_reducible refine w_raise ?_
  | with_reducible refine w_raise0 ?_
  | with_reducible refine w_isX ?_
  | ((with_reducible refine w_isXK (k := ?_) ?_ ?_); rotate_left; (first | with_reducible exact lkA | (apply lkB; decide +kernel; exact lkA) | (apply lkB; decide +kernel; apply lkB; decide +kernel; exact lkA) | (apply lkB; decide +kernel; apply lkB; decide +kernel; apply lkB; decide +kernel; exact lkA)))
  | with_reducible refine w_xf ?_
  | ((with_reducible refine w_xfK ?_ ?_ ?_); (exact List.mem_cons_self); (decide))
  | with_reducible refine w_eq (isN_xo _) ?_
  | with_reducible refine w_eq (dNeg_int _ _) ?_)
local macro_rules | `(tactic| walk_at "go") => `(tactic| (repeat (walk_at "w")); try dsimp only [List.set])
local macro_rules | `(tactic| walk_at "fn") => `(tactic| ((refine w_fun ?_); simp only [startD, List.map_cons, List.map_nil, List.reduceReplicate, Nat.reduceSub, List.cons_append, List.nil_append]; walk_at "go"))
/-! ### cells, names, parents -/
theorem bits_abs (z : Int) : Builtin.Int.intBits (if z < 0 then -z else z) = Builtin.Int.intBits z := by
  refine Nat.le_antisymm (bits_mono ?_) (bits_mono ?_) <;> split <;> omega
theorem cell_small {c : Int} (h0 : 0 ≤ c) (h1 : c < 2147483648) : Cell c := Nat.le_trans (bits_small (by omega) (by omega)) (by decide)
def CellP (c : Int) : Prop := Cell c ∧ 0 ≤ c
theorem p1018 : (10 : Int) ^ 18 = 1000000000000000000 := by decide
theorem cc_at {ns : List Int} (hb : ∀ z ∈ ns, Cell z) {h : MH} {i : Nat} (hl : getL h i = some (ns.map D.int)) {k : Int} (h0 : 0 ≤ k) : Sat (m_cell_at_5ae90 [.ref i, .int k] h) (fun d h' => h' = h ∧ ∃ c, d = .int c ∧ CellP c) noX := by
  walk_at "fn"
  refine br_mid (fun ρ h' => h' = h ∧ ∃ c, ρ = [some (.ref i), some (.int k), some (.int c)] ∧ CellP c) ?_ ?_
  · refine br_d (fun c => ?_) (fun c => ?_)
    · walk_at "go"
      obtain ⟨d, e1, e2⟩ := atI_in (l := ns.map D.int) h0 (by simpa using c)
      rw [List.getElem?_map, Option.map_eq_some_iff] at e2
      obtain ⟨z, e3, rfl⟩ := e2
      walk_at "go"
      refine ⟨rfl, _, rfl, ?_, ?_⟩
      · unfold Cell; rw [bits_abs]; exact hb z (List.mem_of_getElem? e3)
      · split <;> omega
    · walk_at "go"
      exact ⟨rfl, 0, rfl, show Builtin.Int.intBits 0 ≤ 1048576 by decide, by omega⟩
  rintro ρ h1 ⟨rfl, c, rfl, hc⟩
  walk_at "go"
  refine w_pow (n := 18) (by decide) ?_
  walk_at "go"
  refine br_d (fun q => ?_) (fun q => ?_)
  · walk_at "go"
    have := mod_in c (n := 2147483647) (by decide)
    exact ⟨rfl, _, rfl, cell_small this.1 (by omega), this.1⟩
  · walk_at "go"
    exact ⟨rfl, c, rfl, hc⟩

theorem ints_all {S : Int → Prop} : ∀ {ys : List D}, (∀ (i : Nat) y, ys[i]? = some y → ∃ c, y = .int c ∧ S c) → ∃ cs : List Int, ys = cs.map .int ∧ ∀ c ∈ cs, S c
  | [], _ => ⟨[], rfl, fun c hc => by simp at hc⟩
  | y :: ys, h => by
    obtain ⟨c, rfl, hc⟩ := h 0 y rfl
    obtain ⟨cs, rfl, hcs⟩ := ints_all (ys := ys) fun i z e => h (i + 1) z (by simpa using e)
    exact ⟨c :: cs, rfl, fun d hd => by
      rcases List.mem_cons.mp hd with rfl | q
      · exact hc
      · exact hcs d q⟩
theorem mem_app {α : Type} {S : α → Prop} {l : List α} {x : α} (h : ∀ a ∈ l, S a) (hx : S x) : ∀ a ∈ l ++ [x], S a := fun a ha => by
  rcases List.mem_append.mp ha with q | q
  · exact h a q
  · rw [List.mem_singleton.mp q]; exact hx
theorem map_app1 {α β : Type} (f : α → β) (l : List α) (x : α) : l.map f ++ [f x] = (l ++ [x]).map f := by simp
theorem cc_cells {ns : List Int} (hb : ∀ z ∈ ns, Cell z) (hn : ns.length ≤ 63) {h : MH} {i : Nat} (hl : getL h i = some (ns.map D.int)) {s m : Int} (h0 : 0 ≤ s ∧ s ≤ 1000) (hm1 : 1 ≤ m ∧ m ≤ 1000) :
    Sat (m_cells_64c71 [.ref i, .int s, .int m] h) (fun d h' => ∃ (j : Nat) (cs : List Int), d = .ref j ∧ Own h h' [(j, cs.map .int)] ∧ (∀ c ∈ cs, CellP c) ∧ 1 ≤ cs.length ∧ (cs.length : Int) ≤ m) noX := by
  walk_at "fn"
  refine (cc_at hb hl h0.1).mono ?_
  rintro d h1 ⟨rfl, fst, rfl, hf⟩
  walk_at "go"
  refine br_d (fun c => ?_) (fun c => ?_)
  rotate_left
  · walk_at "go"
    refine o_comp (fun _ y => ∃ c, y = .int c ∧ CellP c) (Own.nil h1) (by simp; omega) (fun _ _ => rfl) ?_ ?_
    · intro k d h' hd hp
      obtain ⟨hk, rfl⟩ := rangeD_get hd
      refine ⟨_, rfl, ?_⟩
      dsimp only [wipeD, List.set]
      walk_at "go"
      exact (cc_at hb (pre_getL hp hl) (by omega)).mono fun d h' hh => hh
    · intro ys hy hp j h' o
      obtain ⟨cs, rfl, hcs⟩ := ints_all hp
      rw [List.length_map, rangeD_length] at hy
      exact ⟨j, cs, rfl, o, hcs, by (repeat' split at hy) <;> omega, by (repeat' split at hy) <;> omega⟩
  · walk_at "go"
    refine o_new (Own.nil h1) (by simp) fun iL h2 o2 => ?_
    walk_at "go"
    have hm := mod_in (fst / 3) (n := m) (by omega)
    refine w_dR1 (by omega) ?_
    refine w_loop0 (fun k ρ h' => ∃ (n : Int) (o6 : Option D) (cs : List Int), ρ = [some (.ref i), some (.int s), some (.int m), some (.int fst), some (.int n), some (.ref iL), o6] ∧ Own h1 h' [(iL, cs.map .int)] ∧ (∀ c ∈ cs, CellP c) ∧ cs.length = k ∧ CellP n) ⟨fst, none, [], rfl, o2, fun c hc => by simp at hc, rfl, hf⟩ (fun _ _ _ _ => rfl) ?_ ?_
    · rintro k d ρ h' hd ⟨n, o6, cs, rfl, o, hcs, hk, hnn⟩
      obtain ⟨hk', rfl⟩ := rangeD_get hd
      refine ⟨_, rfl, ?_⟩
      dsimp only [List.set]
      walk_at "go"
      refine w_mulB (a := 1048576) (b := 64) hnn.1 (bits_small (by decide) (by decide)) (by decide) ?_
      walk_at "go"
      have hz := mod_in (n * 48271 + 12345 + (0 + (k : Int))) (n := 2147483647) (by decide)
      generalize (n * 48271 + 12345 + (0 + (k : Int))) % 2147483647 = z at *
      walk_at "go"
      refine o_app o 0 rfl (by simp; omega) fun h5 o5 => ?_
      rw [List.set_cons_zero, map_app1] at o5
      have hz' : CellP z := ⟨cell_small hz.1 (by omega), hz.1⟩
      exact ⟨z, _, _, rfl, o5, mem_app hcs hz', by simp [hk], hz'⟩
    · rintro ρ h' ⟨n, o6, cs, rfl, o, hcs, hk, hnn⟩
      rw [rangeD_length] at hk
      walk_at "go"
      exact ⟨iL, cs, rfl, o, hcs, by omega, by omega⟩
/-! names -/
def Ltr (c : Nat) : Prop := 97 ≤ c ∧ c ≤ 122
def Nm (x : Str) : Prop := 1 ≤ x.length ∧ x.length ≤ 8 ∧ ∀ c ∈ x.cps.toList, Ltr c
def Ls (n : Nat) (x : Str) : Prop := x.length = n ∧ ∀ c ∈ x.cps.toList, Ltr c
theorem Ls.app {a b : Nat} {x y : Str} (hx : Ls a x) (hy : Ls b y) : Ls (a + b) (x ++ y) := ⟨by rw [app_len, hx.1, hy.1], fun c hc => by
  rw [app_cps] at hc
  rcases List.mem_append.mp hc with q | q
  · exact hx.2 c q
  · exact hy.2 c q⟩
theorem Ls.nm {n : Nat} {x : Str} (h : Ls n x) (h1 : 1 ≤ n) (h8 : n ≤ 8) : Nm x := ⟨by rw [h.1]; exact h1, by rw [h.1]; exact h8, h.2⟩
theorem ltrs_all : ∀ c ∈ (Str.ofString "abcdefghijklmnopqrstuvwxyz").cps.toList, Ltr c := by unfold Ltr; decide +kernel
theorem w_ltr {i : Int} {h : MH} {Q : D → MH → Prop} {E : XE} (q : ∀ c, Ls 1 ⟨#[c]⟩ → Q (.str ⟨#[c]⟩) h) : Sat (dIx (.str (Str.ofString "abcdefghijklmnopqrstuvwxyz")) (.int (i % 26)) h) Q E := by
  have hm := mod_in i (n := 26) (by decide)
  obtain ⟨c, e1, e2⟩ := atI_in (l := (Str.ofString "abcdefghijklmnopqrstuvwxyz").cps.toList) hm.1 (by rw [← str_len, lt_len]; exact hm.2)
  refine w_ixS (by rw [lt_len]; decide) e1 (q c ⟨rfl, fun d hd => ?_⟩)
  have : d = c := by simpa using hd
  rw [this]
  exact ltrs_all c (List.mem_of_getElem? e2)
theorem w_addLs {a b : Nat} {x y : Str} {h : MH} {Q : D → MH → Prop} {E : XE} (hx : Ls a x) (hy : Ls b y) (c : a + b ≤ 1000) (q : Ls (a + b) (x ++ y) → Q (.str (x ++ y)) h) : Sat (dAdd (.str x) (.str y) h) Q E :=
  w_addS (by rw [hx.1, hy.1]; omega) (q (hx.app hy))
theorem emp_cps : (Str.ofString "").cps.toList = [] := by decide +kernel
theorem cc_spelled {c n : Int} (hn : 1 ≤ n ∧ n ≤ 8) {h : MH} : Sat (m_spelled_7a0ca [.int c, .int n] h) (fun d h' => h' = h ∧ ∃ x, d = .str x ∧ Nm x) noX := by
  walk_at "fn"
  refine w_loop0 (fun k ρ h' => h' = h ∧ ∃ c x o, ρ = [some (.int c), some (.int n), some (.str x), o] ∧ Ls k x) ⟨rfl, c, _, none, rfl, rfl, fun c hc => by rw [emp_cps] at hc; simp at hc⟩ (fun _ _ _ _ => rfl) ?_ ?_
  · rintro k d ρ h' hd ⟨rfl, c, x, o, rfl, hx⟩
    obtain ⟨hk, rfl⟩ := rangeD_get hd
    refine ⟨_, rfl, ?_⟩
    dsimp only [List.set]
    walk_at "go"
    refine w_ltr fun z hz => ?_
    refine w_addLs hx hz (by omega) fun hxz => ?_
    walk_at "go"
    exact ⟨rfl, _, _, _, rfl, hxz⟩
  · rintro ρ h' ⟨rfl, c, x, o, rfl, hx⟩
    rw [rangeD_length] at hx
    walk_at "go"
    exact ⟨rfl, x, rfl, hx.nm (by omega) (by omega)⟩

theorem n_ls {j : Int} (h0 : 0 ≤ j) (h1 : j ≤ 8) : Ls j.toNat (Txt.mul (Str.ofString "n") j) := by
  have : j = 0 ∨ j = 1 ∨ j = 2 ∨ j = 3 ∨ j = 4 ∨ j = 5 ∨ j = 6 ∨ j = 7 ∨ j = 8 := by omega
  rcases this with rfl | rfl | rfl | rfl | rfl | rfl | rfl | rfl | rfl <;> (unfold Ls Ltr; decide +kernel)
theorem w_mulN {j : Int} {h : MH} {Q : D → MH → Prop} {E : XE} (h0 : 0 ≤ j) (h1 : j ≤ 8) (q : ∀ x, Ls j.toNat x → Q (.str x) h) : Sat (dMul (.str (Str.ofString "n")) (.int j) h) Q E :=
  w_eq (by rw [dMul_str, if_pos]; have : (Str.ofString "n").length = 1 := by decide +kernel
           rw [this]; omega) (q _ (n_ls h0 h1))
theorem cc_name {c : Int} (hc : CellP c) {h : MH} : Sat (m_name_35a2d [.int c] h) (fun d h' => h' = h ∧ ∃ x, d = .str x ∧ Nm x) noX := by
  have hm := mod_in c (n := 8) (by decide)
  walk_at "fn"
  refine w_pow (n := 18) (by decide) ?_
  walk_at "go"
  have hn8 : 1 ≤ 1 + c % 8 ∧ 1 + c % 8 ≤ 8 := by omega
  generalize 1 + c % 8 = n at *
  refine br_d (fun q => ?_) (fun q => ?_)
  · walk_at "go"
    exact (cc_spelled (by omega)).mono fun d h' hh => hh
  walk_at "go"
  refine br_d (fun q => ?_) (fun q => ?_)
  · walk_at "go"
    have hm2 := mod_in (c / 16) (n := n) (by omega)
    generalize c / 16 % n = t at *
    refine w_mulN hm2.1 (by omega) fun x hx => ?_
    walk_at "go"
    refine w_ltr fun z hz => ?_
    refine w_addLs hx hz (by omega) fun hxz => ?_
    walk_at "go"
    refine w_mulN (by omega) (by omega) fun y hy => ?_
    refine w_addLs hxz hy (by omega) fun hxy => ?_
    exact ⟨rfl, _, rfl, hxy.nm (by omega) (by omega)⟩
  walk_at "go"
  refine w_loop0 (fun k ρ h' => h' = h ∧ ∃ z x o6, ρ = [some (.int c), some (.str (Str.ofString "abcdefghijklmnopqrstuvwxyz")), some (.int n), some (.int z), some (.str x), o6, none] ∧ Ls k x ∧ CellP z) ⟨rfl, c, _, none, rfl, ⟨rfl, fun c hc => by rw [emp_cps] at hc; simp at hc⟩, hc⟩ (fun _ _ _ _ => rfl) ?_ ?_
  · rintro k d ρ h' hd ⟨rfl, z, x, o6, rfl, hx, hz⟩
    obtain ⟨hk, rfl⟩ := rangeD_get hd
    refine ⟨_, rfl, ?_⟩
    dsimp only [List.set]
    walk_at "go"
    refine w_mulB (a := 1048576) (b := 64) hz.1 (bits_small (by decide) (by decide)) (by decide) ?_
    walk_at "go"
    have hz2 := mod_in (z * 69621 + 12345) (n := 2147483647) (by decide)
    generalize (z * 69621 + 12345) % 2147483647 = v at *
    refine w_ltr fun l hl => ?_
    refine w_addLs hx hl (by omega) fun hxz => ?_
    exact ⟨rfl, _, _, _, rfl, hxz, cell_small hz2.1 (by omega), hz2.1⟩
  · rintro ρ h' ⟨rfl, z, x, o6, rfl, hx, hz⟩
    rw [rangeD_length] at hx
    walk_at "go"
    exact ⟨rfl, x, rfl, hx.nm (by omega) (by omega)⟩
/-! parents -/
def Par (ps : List Int) : Prop := ps[0]? = some 0 ∧ ∀ (k : Nat) p, 0 < k → ps[k]? = some p → 0 ≤ p ∧ p < (k : Int)
theorem Par.app {ps : List Int} {p : Int} (h : Par ps) (hl : 0 < ps.length) (h0 : 0 ≤ p) (h1 : p < (ps.length : Int)) : Par (ps ++ [p]) := ⟨by rw [List.getElem?_append_left hl]; exact h.1, fun k q hk e => by
  rcases Nat.lt_or_ge k ps.length with z | z
  · rw [List.getElem?_append_left z] at e
    exact h.2 k q hk e
  · rw [List.getElem?_append_right z] at e
    have : k - ps.length = 0 := by
      have := (List.getElem?_eq_some_iff.mp e).1
      simp at this; omega
    rw [this] at e
    simp at e
    omega⟩
theorem map_at {f : Int → D} {l : List Int} {k : Int} (h0 : 0 ≤ k) (h1 : k < (l.length : Int)) : ∃ c, atI (l.map f) k = some (f c) ∧ l[k.toNat]? = some c := by
  obtain ⟨d, e1, e2⟩ := atI_in (l := l.map f) (i := k) h0 (by simpa using h1)
  rw [List.getElem?_map, Option.map_eq_some_iff] at e2
  obtain ⟨c, e2, rfl⟩ := e2
  exact ⟨c, e1, e2⟩
theorem mod_bd {x m K : Int} (h0 : 0 < m) (h1 : m ≤ K + 1) : 0 ≤ x % m ∧ x % m ≤ K := by
  have := mod_in x h0
  omega
theorem cc_parents {cs : List Int} (hcs : ∀ c ∈ cs, CellP c) (h1 : 1 ≤ cs.length) (h2 : cs.length ≤ 1000) {h : MH} {i : Nat} (hl : getL h i = some (cs.map D.int)) :
    Sat (m_parents_ea8fe [.ref i] h) (fun d h' => ∃ (j : Nat) (ps : List Int), d = .ref j ∧ Own h h' [(j, ps.map .int)] ∧ Par ps ∧ ps.length = cs.length) noX := by
  walk_at "fn"
  obtain ⟨c0, e0, _⟩ := map_at (f := D.int) (l := cs) (k := 0) (by decide) (by omega)
  walk_at "go"
  have hw := mod_in c0 (n := 4) (by decide)
  generalize c0 % 4 = way at *
  refine o_new (Own.nil h) (by simp) fun iL h2 o2 => ?_
  walk_at "go"
  refine w_loop0 (fun k ρ h' => ∃ o3 o4 o5, ∃ ps : List Int, ρ = [some (.ref i), some (.int way), some (.ref iL), o3, o4, o5] ∧ Own h h' [(iL, ps.map .int)] ∧ Par ps ∧ ps.length = k + 1) ⟨none, none, none, [0], rfl, o2, ⟨rfl, fun k p hk e => by
    have := (List.getElem?_eq_some_iff.mp e).1
    simp at this; omega⟩, rfl⟩ (fun _ _ _ _ => rfl) ?_ ?_
  · rintro k d ρ h' hd ⟨o3, o4, o5, ps, rfl, o, hp, hk⟩
    obtain ⟨hk', rfl⟩ := rangeD_get hd
    refine ⟨_, rfl, ?_⟩
    dsimp only [List.set]
    have hkk : (1 : Int) + (k : Int) = ((k + 1 : Nat) : Int) := by omega
    rw [hkk]
    obtain ⟨ck, ek, ek'⟩ := map_at (f := D.int) (l := cs) (k := ((k + 1 : Nat) : Int)) (by omega) (by omega)
    have hck := hcs ck (List.mem_of_getElem? ek')
    walk_at "go"
    refine w_mulB (a := 1048576) (b := 64) hck.1 (bits_small (by decide) (by decide)) (by decide) ?_
    walk_at "go"
    generalize ck * 16807 % 2147483629 / 5 = bl at *
    refine br_mid (fun ρ h1 => h1 = h' ∧ ∃ far, ρ = [some (.ref i), some (.int way), some (.ref iL), some (.int ((k + 1 : Nat) : Int)), some (.int bl), some (.int far)] ∧ 0 ≤ far ∧ far ≤ (k : Int)) ?_ ?_
    · refine br_d (fun c => ?_) (fun c => ?_)
      · walk_at "go"
        exact ⟨rfl, _, rfl, mod_bd (by omega) (by omega)⟩
      · walk_at "go"
        exact ⟨rfl, _, rfl, mod_bd (by omega) (by omega)⟩
    rintro ρ h3 ⟨rfl, far, rfl, hfar⟩
    walk_at "go"
    refine br_mid (fun ρ h1 => h1 = h3 ∧ ∃ far, ρ = [some (.ref i), some (.int way), some (.ref iL), some (.int ((k + 1 : Nat) : Int)), some (.int bl), some (.int far)] ∧ 0 ≤ far ∧ far ≤ (k : Int)) ?_ ?_
    · refine br_d (fun c => ?_) (fun c => ?_)
      · walk_at "go"
        have := mod_bd (x := bl) (m := if (2 : Int) < ((k + 1 : Nat) : Int) then 2 else ((k + 1 : Nat) : Int)) (K := k) (by omega) (by omega)
        exact ⟨rfl, _, rfl, by omega, by omega⟩
      · walk_at "go"
        exact ⟨rfl, _, rfl, hfar⟩
    rintro ρ h4 ⟨rfl, far, rfl, hfar⟩
    walk_at "go"
    refine br_mid (fun ρ h1 => h1 = h4 ∧ ∃ far, ρ = [some (.ref i), some (.int way), some (.ref iL), some (.int ((k + 1 : Nat) : Int)), some (.int bl), some (.int far)] ∧ 0 ≤ far ∧ far ≤ (k : Int)) ?_ ?_
    · refine br_d (fun c => ?_) (fun c => ?_)
      · walk_at "go"
        exact ⟨rfl, _, rfl, mod_bd (by omega) (by omega)⟩
      · walk_at "go"
        exact ⟨rfl, _, rfl, hfar⟩
    rintro ρ h5 ⟨rfl, far, rfl, hfar⟩
    walk_at "go"
    refine w_pow (n := 18) (by decide) ?_
    walk_at "go"
    refine br_mid (fun ρ h1 => h1 = h5 ∧ ∃ far, ρ = [some (.ref i), some (.int way), some (.ref iL), some (.int ((k + 1 : Nat) : Int)), some (.int bl), some (.int far)] ∧ 0 ≤ far ∧ far ≤ (k : Int)) ?_ ?_
    · refine br_d (fun c => ?_) (fun c => ?_)
      · walk_at "go"
        refine w_pow (n := 8) (by decide) ?_
        refine w_mulS (by decide) ?_
        refine w_fdiv (by decide) ?_
        walk_at "go"
        exact ⟨rfl, _, rfl, mod_bd (by omega) (by omega)⟩
      · walk_at "go"
        exact ⟨rfl, _, rfl, hfar⟩
    rintro ρ h6 ⟨rfl, far, rfl, hfar⟩
    walk_at "go"
    refine o_app o 0 rfl (by simp; omega) fun h7 o7 => ?_
    rw [List.set_cons_zero, map_app1] at o7
    exact ⟨_, _, _, _, rfl, o7, hp.app (by omega) (by omega) (by omega), by simp [hk]⟩
  · rintro ρ h' ⟨o3, o4, o5, ps, rfl, o, hp, hk⟩
    rw [rangeD_length] at hk
    walk_at "go"
    exact ⟨iL, ps, rfl, o, hp, by omega⟩

/-! ### documents -/
inductive Doc where
  | mk (x : Str) (ks : List Doc)
def Doc.nm : Doc → Str
  | .mk x _ => x
def Doc.ks : Doc → List Doc
  | .mk _ l => l
mutual
def Doc.toD : Doc → D
  | .mk x l => .tup [.str x, .tup (Doc.toDs l)]
def Doc.toDs : List Doc → List D
  | [] => []
  | d :: l => d.toD :: Doc.toDs l
end
theorem toDs_map : ∀ l : List Doc, Doc.toDs l = l.map Doc.toD
  | [] => rfl
  | d :: l => by rw [Doc.toDs, toDs_map l, List.map_cons]
theorem toD_mk (x : Str) (l : List Doc) : (Doc.mk x l).toD = .tup [.str x, .tup (l.map Doc.toD)] := by rw [Doc.toD, toDs_map]
theorem toD_eq (d : Doc) : d.toD = .tup [.str d.nm, .tup (d.ks.map Doc.toD)] := by cases d; exact toD_mk _ _
def Doc.ok : Nat → Doc → Prop
  | 0, _ => False
  | n + 1, .mk x l => Nm x ∧ l.length ≤ 1000 ∧ ∀ k ∈ l, k.ok n
def Doc.at : Doc → List Int → Option Doc
  | d, [] => some d
  | d, k :: r => if 0 ≤ k then match d.ks[k.toNat]? with
    | some c => c.at r
    | none => none else none
theorem at_app : ∀ (d : Doc) (a b : List Int), d.at (a ++ b) = (d.at a).bind fun c => c.at b
  | d, [], b => by simp [Doc.at]
  | d, k :: r, b => by
    rw [List.cons_append, Doc.at, Doc.at]
    split
    · split
      · rename_i c e
        exact at_app c r b
      · rfl
    · rfl
theorem at_one (d : Doc) (k : Int) : d.at [k] = if 0 ≤ k then d.ks[k.toNat]? else none := by
  rw [Doc.at]
  split
  · split
    · rename_i c e; rw [e, Doc.at]
    · rename_i e; rw [e]
  · rfl
/-- the children of the k-th -/
def isKid (pn : Nat → Nat) (k j : Nat) : Bool := decide (0 < j ∧ pn j = k)
def kids (pn : Nat → Nat) (n k : Nat) : List Nat := (List.range n).filter (isKid pn k)
def kidsF (pn : Nat → Nat) (n m k : Nat) : List Nat := (List.range' m (n - m)).filter (isKid pn k)
def cntF (pn : Nat → Nat) (k p : Nat) : Nat := ((List.range k).filter (isKid pn p)).length
def PnOk (pn : Nat → Nat) (n : Nat) : Prop := ∀ j, 0 < j → j < n → pn j < j
theorem kids_mem {pn : Nat → Nat} {n k j : Nat} (h : j ∈ kids pn n k) : j < n ∧ 0 < j ∧ pn j = k := by
  unfold kids at h
  rw [List.mem_filter, List.mem_range] at h
  exact ⟨h.1, of_decide_eq_true h.2⟩
theorem kidsF_mem {pn : Nat → Nat} {n m k j : Nat} (h : j ∈ kidsF pn n m k) : m ≤ j ∧ 0 < j ∧ pn j = k := by
  unfold kidsF at h
  rw [List.mem_filter, List.mem_range'] at h
  obtain ⟨⟨i, h1, h2⟩, h3⟩ := h
  have := of_decide_eq_true h3
  exact ⟨by omega, this⟩
theorem range_cut {k n : Nat} (h : k ≤ n) : List.range n = List.range k ++ List.range' k (n - k) := by
  have e : n = k + (n - k) := by omega
  rw [List.range_eq_range', List.range_eq_range']
  have := List.range'_append_1 (s := 0) (m := k) (n := n - k)
  rw [Nat.zero_add, ← e] at this
  exact this.symm
theorem kidsF_step {pn : Nat → Nat} {n m k : Nat} (h : m < n) : kidsF pn n m k = if isKid pn k m = true then m :: kidsF pn n (m + 1) k else kidsF pn n (m + 1) k := by
  unfold kidsF
  have e : n - m = (n - (m + 1)) + 1 := by omega
  rw [e, List.range'_succ, List.filter_cons]
theorem kidsF_top {pn : Nat → Nat} {n k : Nat} : kidsF pn n n k = [] := by unfold kidsF; simp
/-- all children of j are behind it -/
theorem kidsF_all {pn : Nat → Nat} {n m j : Nat} (hp : PnOk pn n) (hm : m ≤ j + 1) (hj : j < n) : kidsF pn n m j = kids pn n j := by
  unfold kids kidsF
  rcases Nat.lt_or_ge n m with z | z
  · have : n - m = 0 := by omega
    omega
  · rw [range_cut z, List.filter_append]
    have : (List.range m).filter (isKid pn j) = [] := by
      rw [List.filter_eq_nil_iff]
      intro i hi
      rw [List.mem_range] at hi
      unfold isKid
      intro q
      have q := of_decide_eq_true q
      have := hp i q.1 (by omega)
      omega
    rw [this, List.nil_append]
theorem kid_at {pn : Nat → Nat} {n k : Nat} (h0 : 0 < k) (h1 : k < n) : (kids pn n (pn k))[cntF pn k (pn k)]? = some k := by
  unfold kids cntF
  rw [range_cut (Nat.le_of_lt h1), List.filter_append, List.getElem?_append_right (Nat.le_refl _), Nat.sub_self]
  have e : n - k = (n - (k + 1)) + 1 := by omega
  have t : isKid pn (pn k) k = true := by unfold isKid; simp [h0]
  rw [e, List.range'_succ, List.filter_cons, if_pos t]
  rfl
theorem cnt_step {pn : Nat → Nat} {k p : Nat} : cntF pn (k + 1) p = cntF pn k p + if isKid pn p k = true then 1 else 0 := by
  unfold cntF
  rw [List.range_succ, List.filter_append, List.length_append, List.filter_cons]
  split <;> simp
theorem cnt_le {pn : Nat → Nat} {k p : Nat} : cntF pn k p ≤ k := by
  unfold cntF
  have := List.length_filter_le (isKid pn p) (List.range k)
  simpa using this
theorem kids_len {pn : Nat → Nat} {n k : Nat} : (kids pn n k).length ≤ n := cnt_le
/-- documents by their children -/
def DocsF (pn : Nat → Nat) (n m : Nat) (f : Nat → Doc) : Prop := ∀ j, m ≤ j → j < n → ∃ x, Nm x ∧ f j = .mk x ((kids pn n j).map f)
theorem DocsF.put {pn : Nat → Nat} {n m : Nat} {f : Nat → Doc} (hp : PnOk pn n) (h : DocsF pn n (m + 1) f) {x : Str} (hx : Nm x) : DocsF pn n m (fun i => if i = m then .mk x ((kids pn n m).map f) else f i) := fun j h1 h2 => by
  have key : (kids pn n j).map (fun i => if i = m then .mk x ((kids pn n m).map f) else f i) = (kids pn n j).map f := by
    refine List.map_congr_left fun i hi => ?_
    obtain ⟨a, b, c⟩ := kids_mem hi
    have := hp i b a
    rw [if_neg (by omega)]
  by_cases e : j = m
  · subst e
    rw [key]
    dsimp only
    rw [if_pos rfl]
    exact ⟨x, hx, rfl⟩
  · rw [key]
    dsimp only
    rw [if_neg e]
    exact h j (by omega) h2
theorem DocsF.ok {pn : Nat → Nat} {n : Nat} {f : Nat → Doc} (hp : PnOk pn n) (hn : n ≤ 1000) (h : DocsF pn n 0 f) : ∀ (t j : Nat), n ≤ j + t → j < n → (f j).ok t
  | 0, j, h1, h2 => by omega
  | t + 1, j, h1, h2 => by
    obtain ⟨x, hx, e⟩ := h j (Nat.zero_le _) h2
    rw [e]
    refine ⟨hx, ?_, ?_⟩
    · rw [List.length_map]
      exact Nat.le_trans kids_len hn
    · intro k hk
      obtain ⟨i, hi, rfl⟩ := List.mem_map.mp hk
      obtain ⟨a, b, c⟩ := kids_mem hi
      have := hp i b a
      exact DocsF.ok hp hn h t i (by omega) a
/-- places -/
def PlF (pn : Nat → Nat) (n : Nat) (q : Nat → List Int) : Prop := q 0 = [] ∧ ∀ k, 0 < k → k < n → q k = q (pn k) ++ [(cntF pn k (pn k) : Int)]
theorem PlF.put {pn : Nat → Nat} {n : Nat} {q : Nat → List Int} (hp : PnOk pn (n + 1)) (hn : 0 < n) (h : PlF pn n q) : PlF pn (n + 1) (fun i => if i = n then q (pn n) ++ [(cntF pn n (pn n) : Int)] else q i) := ⟨by dsimp only; rw [if_neg (by omega)]; exact h.1, fun k h0 h1 => by
  dsimp only
  have := hp k h0 h1
  by_cases e : k = n
  · subst e
    rw [if_pos rfl, if_neg (by omega)]
  · rw [if_neg e, if_neg (by omega)]
    exact h.2 k h0 (by omega)⟩
theorem stands {pn : Nat → Nat} {n : Nat} {f : Nat → Doc} {q : Nat → List Int} (hp : PnOk pn n) (hf : DocsF pn n 0 f) (hq : PlF pn n q) : ∀ (m k : Nat), k ≤ m → k < n → (f 0).at (q k) = some (f k)
  | 0, k, h1, h2 => by
    have : k = 0 := by omega
    subst this
    rw [hq.1, Doc.at]
  | m + 1, k, h1, h2 => by
    by_cases h0 : k = 0
    · subst h0
      rw [hq.1, Doc.at]
    · have hk := hp k (by omega) h2
      rw [hq.2 k (by omega) h2, at_app, stands hp hf hq m (pn k) (by omega) (by omega), Option.bind_some, at_one, if_pos (by omega)]
      obtain ⟨x, _, e⟩ := hf (pn k) (Nat.zero_le _) (by omega)
      rw [e]
      show ((kids pn n (pn k)).map f)[((cntF pn k (pn k) : Nat) : Int).toNat]? = some (f k)
      rw [Int.toNat_natCast, List.getElem?_map, kid_at (by omega) h2]
      rfl
theorem pl_len {pn : Nat → Nat} {n : Nat} {q : Nat → List Int} (hp : PnOk pn n) (hq : PlF pn n q) : ∀ (m k : Nat), k ≤ m → k < n → (q k).length ≤ k
  | 0, k, h1, h2 => by
    have : k = 0 := by omega
    subst this
    rw [hq.1]; simp
  | m + 1, k, h1, h2 => by
    by_cases h0 : k = 0
    · subst h0
      rw [hq.1]; simp
    · have hk := hp k (by omega) h2
      rw [hq.2 k (by omega) h2, List.length_append]
      have := pl_len hp hq m (pn k) (by omega) (by omega)
      simp; omega
end Mi

namespace Mi
open PySem L2
/-! Patterns, plainly. -/
inductive PT where
  | one (x : Str) | chain (l : List PT) | choice (l : List PT) | times (p : PT) (lo : Int) (hi : Option Int) | mixed (l : List PT)
/-- the figures of a number -/
def dg (i : Int) : List Nat := (Str.ofString (toString i)).cps.toList
mutual
def PT.pen : PT → List Nat
  | .one x => x.cps.toList
  | .times p lo hi => 84 :: (dg lo ++ 44 :: (dg (hi.getD (-1)) ++ 40 :: (p.pen ++ [41])))
  | .chain l => 67 :: 40 :: PT.jn l
  | .choice l => 79 :: 40 :: PT.jn l
  | .mixed l => 77 :: 40 :: PT.jn l
def PT.jn : List PT → List Nat
  | [] => [41]
  | p :: l => p.pen ++ PT.jt l
def PT.jt : List PT → List Nat
  | [] => [41]
  | p :: l => 32 :: (p.pen ++ PT.jt l)
end
mutual
def PT.ok : PT → Prop
  | .one x => Nm x
  | .times p lo hi => p.ok ∧ (0 ≤ lo ∧ lo ≤ 9) ∧ ∀ k, hi = some k → lo ≤ k ∧ k ≤ 9
  | .chain l => PT.oks l
  | .choice l => PT.oks l
  | .mixed l => PT.oks l
def PT.oks : List PT → Prop
  | [] => True
  | p :: l => p.ok ∧ PT.oks l
end
theorem oks_iff : ∀ {l : List PT}, PT.oks l ↔ ∀ p ∈ l, p.ok
  | [] => by simp [PT.oks]
  | p :: l => by rw [PT.oks, oks_iff (l := l)]; simp
theorem dg_small {i : Int} (h : 0 ≤ i ∧ i ≤ 9) : dg i = [48 + i.toNat] := by
  have : i = 0 ∨ i = 1 ∨ i = 2 ∨ i = 3 ∨ i = 4 ∨ i = 5 ∨ i = 6 ∨ i = 7 ∨ i = 8 ∨ i = 9 := by omega
  rcases this with rfl | rfl | rfl | rfl | rfl | rfl | rfl | rfl | rfl | rfl <;> decide +kernel
theorem dg_neg : dg (-1) = [45, 49] := by decide +kernel
theorem dg_inj {a b : Int} {r s : List Nat} (ha : 0 ≤ a ∧ a ≤ 9) (hb : 0 ≤ b ∧ b ≤ 9) (e : dg a ++ r = dg b ++ s) : a = b ∧ r = s := by
  rw [dg_small ha, dg_small hb] at e
  simp only [List.cons_append, List.nil_append, List.cons.injEq] at e
  exact ⟨by omega, e.2⟩
def hiOk (lo : Int) (hi : Option Int) : Prop := ∀ k, hi = some k → lo ≤ k ∧ k ≤ 9
theorem hi_inj {lo lo' : Int} {a b : Option Int} {r s : List Nat} (hl : 0 ≤ lo) (hl' : 0 ≤ lo') (ha : hiOk lo a) (hb : hiOk lo' b) (e : dg (a.getD (-1)) ++ r = dg (b.getD (-1)) ++ s) : a = b ∧ r = s := by
  cases a with
  | none =>
    cases b with
    | none => exact ⟨rfl, List.append_cancel_left e⟩
    | some k =>
      have := hb k rfl
      rw [Option.getD_none, Option.getD_some, dg_neg, dg_small (by omega)] at e
      simp only [List.cons_append, List.cons.injEq] at e
      omega
  | some j =>
    have h1 := ha j rfl
    cases b with
    | none =>
      rw [Option.getD_none, Option.getD_some, dg_neg, dg_small (by omega)] at e
      simp only [List.cons_append, List.cons.injEq] at e
      omega
    | some k =>
      have h2 := hb k rfl
      rw [Option.getD_some, Option.getD_some] at e
      have e9 := dg_inj (by omega) (by omega) e
      clear e
      obtain ⟨rfl, e⟩ := e9
      exact ⟨rfl, e⟩
/-- it begins with no letter -/
def NL (r : List Nat) : Prop := ∀ c t, r = c :: t → ¬ Ltr c
theorem nl_cons {c : Nat} {t : List Nat} (h : ¬ Ltr c) : NL (c :: t) := fun _ _ e => by cases e; exact h
theorem ltrs_split : ∀ {a b r s : List Nat}, (∀ c ∈ a, Ltr c) → (∀ c ∈ b, Ltr c) → NL r → NL s → a ++ r = b ++ s → a = b ∧ r = s
  | [], [], _, _, _, _, _, _, e => ⟨rfl, e⟩
  | [], c :: b, r, s, _, hb, hr, _, e => absurd (hb c List.mem_cons_self) (hr c (b ++ s) e)
  | c :: a, [], r, s, ha, _, _, hs, e => absurd (ha c List.mem_cons_self) (hs c (a ++ r) e.symm)
  | c :: a, d :: b, r, s, ha, hb, hr, hs, e => by
    simp only [List.cons_append, List.cons.injEq] at e
    obtain ⟨rfl, e⟩ := e
    have e9 := ltrs_split (fun c hc => ha c (List.mem_cons_of_mem _ hc)) (fun c hc => hb c (List.mem_cons_of_mem _ hc)) hr hs e
    clear e
    obtain ⟨rfl, e⟩ := e9
    exact ⟨rfl, e⟩
theorem nm_head {x : Str} (h : Nm x) : ∃ c t, x.cps.toList = c :: t ∧ Ltr c := by
  have hl : x.length = x.cps.toList.length := by simp [Str.length]
  cases e : x.cps.toList with
  | nil => have := h.1; rw [hl, e] at this; simp at this
  | cons c t => exact ⟨c, t, rfl, h.2.2 c (by rw [e]; exact List.mem_cons_self)⟩
theorem one_ne {x : Str} (h : Nm x) {c : Nat} {r s : List Nat} (hc : ¬ Ltr c) : x.cps.toList ++ r ≠ c :: s := fun e => by
  obtain ⟨d, t, e1, h1⟩ := nm_head h
  rw [e1] at e
  simp only [List.cons_append, List.cons.injEq] at e
  rw [← e.1] at hc
  exact hc h1
theorem str_of {x y : Str} (e : x.cps.toList = y.cps.toList) : x = y := by
  cases x; cases y
  simp only at e
  have := Array.toList_inj.mp e
  rw [this]
theorem pen_ne : ∀ (p : PT) (c : Nat) (r s : List Nat), p.ok → c ∈ [41, 32] → p.pen ++ r ≠ c :: s
  | .one x, c, r, s, h, hc, e => one_ne (c := c) h (by simp at hc; unfold Ltr; omega) e
  | .chain l, c, r, s, h, hc, e => by rw [PT.pen, List.cons_append] at e; simp at e hc; omega
  | .choice l, c, r, s, h, hc, e => by rw [PT.pen, List.cons_append] at e; simp at e hc; omega
  | .mixed l, c, r, s, h, hc, e => by rw [PT.pen, List.cons_append] at e; simp at e hc; omega
  | .times p lo hi, c, r, s, h, hc, e => by rw [PT.pen, List.cons_append] at e; simp at e hc; omega
mutual
theorem pen_inj : ∀ (p q : PT) (r s : List Nat), p.ok → q.ok → NL r → NL s → p.pen ++ r = q.pen ++ s → p = q ∧ r = s
  | .one x, q, r, s, hp, hq, hr, hs, e => by
    cases q with
    | one y =>
      rw [PT.pen, PT.pen] at e
      obtain ⟨e1, e2⟩ := ltrs_split (hp : Nm x).2.2 (hq : Nm y).2.2 hr hs e
      exact ⟨by rw [str_of e1], e2⟩
    | _ => rw [PT.pen, PT.pen, List.cons_append] at e; exact absurd e (one_ne hp (by unfold Ltr; omega))
  | .chain l, q, r, s, hp, hq, hr, hs, e => by
    cases q with
    | one y => rw [PT.pen, PT.pen, List.cons_append] at e; exact absurd e.symm (one_ne hq (by unfold Ltr; omega))
    | chain m =>
      rw [PT.pen, PT.pen] at e
      simp only [List.cons_append, List.cons.injEq, true_and] at e
      have e9 := jn_inj l m r s hp hq e
      clear e
      obtain ⟨rfl, e⟩ := e9
      exact ⟨rfl, e⟩
    | _ => rw [PT.pen, PT.pen, List.cons_append] at e; simp at e
  | .choice l, q, r, s, hp, hq, hr, hs, e => by
    cases q with
    | one y => rw [PT.pen, PT.pen, List.cons_append] at e; exact absurd e.symm (one_ne hq (by unfold Ltr; omega))
    | choice m =>
      rw [PT.pen, PT.pen] at e
      simp only [List.cons_append, List.cons.injEq, true_and] at e
      have e9 := jn_inj l m r s hp hq e
      clear e
      obtain ⟨rfl, e⟩ := e9
      exact ⟨rfl, e⟩
    | _ => rw [PT.pen, PT.pen, List.cons_append] at e; simp at e
  | .mixed l, q, r, s, hp, hq, hr, hs, e => by
    cases q with
    | one y => rw [PT.pen, PT.pen, List.cons_append] at e; exact absurd e.symm (one_ne hq (by unfold Ltr; omega))
    | mixed m =>
      rw [PT.pen, PT.pen] at e
      simp only [List.cons_append, List.cons.injEq, true_and] at e
      have e9 := jn_inj l m r s hp hq e
      clear e
      obtain ⟨rfl, e⟩ := e9
      exact ⟨rfl, e⟩
    | _ => rw [PT.pen, PT.pen, List.cons_append] at e; simp at e
  | .times p lo hi, q, r, s, hp, hq, hr, hs, e => by
    cases q with
    | one y => rw [PT.pen, PT.pen, List.cons_append] at e; exact absurd e.symm (one_ne hq (by unfold Ltr; omega))
    | times p' lo' hi' =>
      rw [PT.pen, PT.pen] at e
      simp only [List.cons_append, List.append_assoc, List.cons.injEq, true_and, List.nil_append] at e
      obtain ⟨h1, h2, h3⟩ := hp
      obtain ⟨h1', h2', h3'⟩ := hq
      have e9 := dg_inj h2 h2' e
      clear e
      obtain ⟨rfl, e⟩ := e9
      simp only [List.cons.injEq, true_and] at e
      have e9 := hi_inj h2.1 h2'.1 h3 h3' e
      clear e
      obtain ⟨rfl, e⟩ := e9
      simp only [List.cons.injEq, true_and] at e
      have e9 := pen_inj p p' _ _ h1 h1' (nl_cons (by unfold Ltr; omega)) (nl_cons (by unfold Ltr; omega)) e
      clear e
      obtain ⟨rfl, e⟩ := e9
      simp only [List.cons.injEq, true_and] at e
      exact ⟨rfl, e⟩
    | _ => rw [PT.pen, PT.pen, List.cons_append] at e; simp at e
theorem jn_inj : ∀ (l m : List PT) (r s : List Nat), PT.oks l → PT.oks m → PT.jn l ++ r = PT.jn m ++ s → l = m ∧ r = s
  | [], [], r, s, _, _, e => by simpa [PT.jn] using e
  | [], q :: m, r, s, _, hm, e => by
    rw [PT.jn, PT.jn, List.append_assoc] at e
    exact absurd e.symm (pen_ne q 41 _ _ hm.1 (by simp))
  | p :: l, [], r, s, hl, _, e => by
    rw [PT.jn, PT.jn, List.append_assoc] at e
    exact absurd e (pen_ne p 41 _ _ hl.1 (by simp))
  | p :: l, q :: m, r, s, hl, hm, e => by
    rw [PT.jn, PT.jn, List.append_assoc, List.append_assoc] at e
    have nl : ∀ (l : List PT) (r : List Nat), NL (PT.jt l ++ r) := fun l r => by
      cases l with
      | nil => rw [PT.jt]; exact nl_cons (by unfold Ltr; omega)
      | cons p l => rw [PT.jt]; exact nl_cons (by unfold Ltr; omega)
    have e9 := pen_inj p q _ _ hl.1 hm.1 (nl _ _) (nl _ _) e
    clear e
    obtain ⟨rfl, e⟩ := e9
    have e9 := jt_inj l m r s hl.2 hm.2 e
    clear e
    obtain ⟨rfl, e⟩ := e9
    exact ⟨rfl, e⟩
theorem jt_inj : ∀ (l m : List PT) (r s : List Nat), PT.oks l → PT.oks m → PT.jt l ++ r = PT.jt m ++ s → l = m ∧ r = s
  | [], [], r, s, _, _, e => by simpa [PT.jt] using e
  | [], q :: m, r, s, _, hm, e => by rw [PT.jt, PT.jt] at e; simp at e
  | p :: l, [], r, s, hl, _, e => by rw [PT.jt, PT.jt] at e; simp at e
  | p :: l, q :: m, r, s, hl, hm, e => by
    rw [PT.jt, PT.jt] at e
    simp only [List.cons_append, List.append_assoc, List.cons.injEq, true_and] at e
    have nl : ∀ (l : List PT) (r : List Nat), NL (PT.jt l ++ r) := fun l r => by
      cases l with
      | nil => rw [PT.jt]; exact nl_cons (by unfold Ltr; omega)
      | cons p l => rw [PT.jt]; exact nl_cons (by unfold Ltr; omega)
    have e9 := pen_inj p q _ _ hl.1 hm.1 (nl _ _) (nl _ _) e
    clear e
    obtain ⟨rfl, e⟩ := e9
    have e9 := jt_inj l m r s hl.2 hm.2 e
    clear e
    obtain ⟨rfl, e⟩ := e9
    exact ⟨rfl, e⟩
end
theorem pen_eq {p q : PT} (hp : p.ok) (hq : q.ok) (e : p.pen = q.pen) : p = q :=
  (pen_inj p q [] [] hp hq (fun _ _ z => nomatch z) (fun _ _ z => nomatch z) (by rw [e])).1
/-! ### making -/
def opC : PT → List PT
  | .chain l => l
  | p => [p]
def opO : PT → List PT
  | .choice l => l
  | p => [p]
def isE : PT → Bool
  | .chain [] => true
  | _ => false
def opM (p : PT) : List PT := match p with
  | .mixed l => l
  | p => if isE p = true then [] else [p]
/-- one alone is itself -/
def solo (f : List PT → PT) : List PT → PT
  | [p] => p
  | l => f l
def onceA (acc : List PT) : List PT → List PT
  | [] => acc
  | p :: l => onceA (if p.pen ∈ acc.map PT.pen then acc else acc ++ [p]) l
def mkC (l : List PT) : PT := solo .chain (l.flatMap opC)
def mkO (l : List PT) : PT := solo .choice (onceA [] (l.flatMap opO))
def mixN : List PT → PT
  | [] => .chain []
  | l => .mixed l
def mkM (l : List PT) : PT := solo mixN (l.flatMap opM)
def mkT (p : PT) (lo : Int) (hi : Option Int) : PT := if hi = some 0 ∨ isE p = true then .chain [] else if lo = 1 ∧ hi = some 1 then p else .times p lo hi
mutual
def PT.made : PT → PT
  | .one x => .one x
  | .times p lo hi => mkT p.made lo hi
  | .chain l => mkC (PT.mades l)
  | .choice l => mkO (PT.mades l)
  | .mixed l => mkM (PT.mades l)
def PT.mades : List PT → List PT
  | [] => []
  | p :: l => p.made :: PT.mades l
end
theorem mades_eq : ∀ l : List PT, PT.mades l = l.map PT.made
  | [] => rfl
  | p :: l => by rw [PT.mades, mades_eq l]; rfl
theorem opC_ok {p : PT} (h : p.ok) : ∀ q ∈ opC p, q.ok := by
  cases p with
  | chain l => exact oks_iff.mp h
  | _ => intro q hq; rw [List.mem_singleton.mp hq]; exact h
theorem opO_ok {p : PT} (h : p.ok) : ∀ q ∈ opO p, q.ok := by
  cases p with
  | choice l => exact oks_iff.mp h
  | _ => intro q hq; rw [List.mem_singleton.mp hq]; exact h
theorem opM_ok {p : PT} (h : p.ok) : ∀ q ∈ opM p, q.ok := by
  cases p with
  | mixed l => exact oks_iff.mp h
  | _ =>
    intro q hq
    unfold opM at hq
    simp only at hq
    split at hq
    · simp at hq
    · rw [List.mem_singleton.mp hq]; exact h
theorem onceA_mem : ∀ {l acc : List PT} {q : PT}, q ∈ onceA acc l → q ∈ acc ∨ q ∈ l
  | [], acc, q, h => .inl h
  | p :: l, acc, q, h => by
    rw [onceA] at h
    rcases onceA_mem h with h | h
    · split at h
      · exact .inl h
      · rcases List.mem_append.mp h with h | h
        · exact .inl h
        · exact .inr (by rw [List.mem_singleton.mp h]; exact List.mem_cons_self)
    · exact .inr (List.mem_cons_of_mem _ h)
theorem onceA_acc : ∀ {l acc : List PT} {q : PT}, q ∈ acc → q ∈ onceA acc l
  | [], acc, q, h => h
  | p :: l, acc, q, h => by
    rw [onceA]
    refine onceA_acc ?_
    split
    · exact h
    · exact List.mem_append_left _ h
theorem onceA_all : ∀ {l acc : List PT} {q : PT}, (∀ p ∈ acc, p.ok) → (∀ p ∈ l, p.ok) → q ∈ l → q ∈ onceA acc l
  | [], acc, q, _, _, h => by simp at h
  | p :: l, acc, q, ha, hl, h => by
    rw [onceA]
    have ha' : ∀ r ∈ (if p.pen ∈ acc.map PT.pen then acc else acc ++ [p]), r.ok := by
      split
      · exact ha
      · intro r hr
        rcases List.mem_append.mp hr with h | h
        · exact ha r h
        · rw [List.mem_singleton.mp h]; exact hl p List.mem_cons_self
    rcases List.mem_cons.mp h with rfl | h
    · refine onceA_acc ?_
      split
      · rename_i c
        obtain ⟨r, hr, er⟩ := List.mem_map.mp c
        rw [← pen_eq (ha r hr) (hl q List.mem_cons_self) er]
        exact hr
      · simp
    · exact onceA_all ha' (fun r hr => hl r (List.mem_cons_of_mem _ hr)) h
theorem flat_ok {f : PT → List PT} {l : List PT} (hf : ∀ p, p.ok → ∀ q ∈ f p, q.ok) (h : ∀ p ∈ l, p.ok) : ∀ q ∈ l.flatMap f, q.ok := fun q hq => by
  obtain ⟨p, hp, hq⟩ := List.mem_flatMap.mp hq
  exact hf p (h p hp) q hq
theorem solo_ok {f : List PT → PT} {l : List PT} (hf : PT.oks l → (f l).ok) (h : ∀ p ∈ l, p.ok) : (solo f l).ok := by
  unfold solo
  split
  · exact h _ (by simp)
  · exact hf (oks_iff.mpr h)
theorem mkC_ok {l : List PT} (h : ∀ p ∈ l, p.ok) : (mkC l).ok := solo_ok (fun h => h) (flat_ok (fun _ h => opC_ok h) h)
theorem mkO_ok {l : List PT} (h : ∀ p ∈ l, p.ok) : (mkO l).ok := solo_ok (fun h => h) fun p hp => by
  rcases onceA_mem hp with hp | hp
  · simp at hp
  · exact flat_ok (fun _ h => opO_ok h) h p hp
theorem mkM_ok {l : List PT} (h : ∀ p ∈ l, p.ok) : (mkM l).ok := solo_ok (fun h => by
  unfold mixN
  split
  · exact True.intro
  · exact h) (flat_ok (fun _ h => opM_ok h) h)
theorem mkT_ok {p : PT} {lo : Int} {hi : Option Int} (h : (PT.times p lo hi).ok) : (mkT p lo hi).ok := by
  unfold mkT
  split
  · exact True.intro
  · split
    · exact h.1
    · exact h
mutual
theorem made_ok : ∀ p : PT, p.ok → p.made.ok
  | .one x, h => h
  | .times p lo hi, h => by rw [PT.made]; exact mkT_ok ⟨made_ok p h.1, h.2⟩
  | .chain l, h => by rw [PT.made]; exact mkC_ok (mades_ok l h)
  | .choice l, h => by rw [PT.made]; exact mkO_ok (mades_ok l h)
  | .mixed l, h => by rw [PT.made]; exact mkM_ok (mades_ok l h)
theorem mades_ok : ∀ l : List PT, PT.oks l → ∀ p ∈ PT.mades l, p.ok
  | [], _, p, h => by simp [PT.mades] at h
  | q :: l, h, p, hp => by
    rw [PT.mades] at hp
    rcases List.mem_cons.mp hp with rfl | hp
    · exact made_ok q h.1
    · exact mades_ok l h.2 p hp
end
/-! ### bare -/
mutual
def PT.bare : PT → Bool
  | .one _ => false
  | .times p lo _ => decide (lo = 0) || p.bare
  | .chain l => PT.bareA l
  | .choice l => PT.bareO l
  | .mixed l => PT.bareA l
def PT.bareA : List PT → Bool
  | [] => true
  | p :: l => p.bare && PT.bareA l
def PT.bareO : List PT → Bool
  | [] => false
  | p :: l => p.bare || PT.bareO l
end
theorem bareA_all : ∀ l : List PT, PT.bareA l = l.all PT.bare
  | [] => rfl
  | p :: l => by rw [PT.bareA, bareA_all l]; rfl
theorem bareO_any : ∀ l : List PT, PT.bareO l = l.any PT.bare
  | [] => rfl
  | p :: l => by rw [PT.bareO, bareO_any l]; rfl
theorem opC_bare (p : PT) : (opC p).all PT.bare = p.bare := by
  cases p with
  | chain l => rw [opC, PT.bare, bareA_all]
  | _ => simp [opC]
theorem opO_bare (p : PT) : (opO p).any PT.bare = p.bare := by
  cases p with
  | choice l => rw [opO, PT.bare, bareO_any]
  | _ => simp [opO]
theorem isE_eq {p : PT} (h : isE p = true) : p = .chain [] := by
  unfold isE at h
  split at h
  · rfl
  · cases h
theorem opM_bare (p : PT) : (opM p).all PT.bare = p.bare := by
  cases p with
  | mixed l => rw [opM, PT.bare, bareA_all]
  | _ =>
    unfold opM
    simp only
    split
    · rename_i c
      rw [isE_eq c]
      rfl
    · simp
theorem mkC_bare (l : List PT) : (mkC l).bare = l.all PT.bare := by
  have e : (l.flatMap opC).all PT.bare = l.all PT.bare := by rw [List.all_flatMap]; simp only [opC_bare]
  unfold mkC solo
  split
  · rename_i p q
    rw [← e, q]; simp
  · rw [PT.bare, bareA_all, e]
theorem mkM_bare (l : List PT) : (mkM l).bare = l.all PT.bare := by
  have e : (l.flatMap opM).all PT.bare = l.all PT.bare := by rw [List.all_flatMap]; simp only [opM_bare]
  unfold mkM solo
  split
  · rename_i p q
    rw [← e, q]; simp
  · unfold mixN
    split
    · rename_i q
      rw [← e, q]; rfl
    · rw [PT.bare, bareA_all, e]
theorem mkO_bare {l : List PT} (h : ∀ p ∈ l, p.ok) : (mkO l).bare = l.any PT.bare := by
  have e : (l.flatMap opO).any PT.bare = l.any PT.bare := by rw [List.any_flatMap]; simp only [opO_bare]
  have e2 : (onceA [] (l.flatMap opO)).any PT.bare = (l.flatMap opO).any PT.bare := by
    rw [Bool.eq_iff_iff, List.any_eq_true, List.any_eq_true]
    constructor
    · rintro ⟨q, hq, hb⟩
      rcases onceA_mem hq with z | z
      · simp at z
      · exact ⟨q, z, hb⟩
    · rintro ⟨q, hq, hb⟩
      exact ⟨q, onceA_all (fun p hp => by simp at hp) (flat_ok (fun _ h => opO_ok h) h) hq, hb⟩
  unfold mkO solo
  split
  · rename_i p q
    rw [← e, ← e2, q]; simp
  · rw [PT.bare, bareO_any, e2, e]
theorem mkT_bare {p : PT} {lo : Int} {hi : Option Int} (h : (PT.times p lo hi).ok) : (mkT p lo hi).bare = (decide (lo = 0) || p.bare) := by
  unfold mkT
  split
  · rename_i c
    have e : (PT.chain []).bare = true := rfl
    rw [e]
    rcases c with c | c
    · have h1 := h.2.2 0 c
      have h2 := h.2.1
      have : lo = 0 := by omega
      simp [this]
    · rw [isE_eq c, e]; simp
  · split
    · rename_i c
      have : lo ≠ 0 := by omega
      simp [this]
    · rfl
mutual
theorem made_bare : ∀ p : PT, p.ok → p.made.bare = p.bare
  | .one x, h => rfl
  | .times p lo hi, h => by rw [PT.made, mkT_bare ⟨made_ok p h.1, h.2⟩, made_bare p h.1]; rfl
  | .chain l, h => by rw [PT.made, mkC_bare, PT.bare, bareA_all, (mades_bare l h).1]
  | .choice l, h => by rw [PT.made, mkO_bare (mades_ok l h), PT.bare, bareO_any, (mades_bare l h).2]
  | .mixed l, h => by rw [PT.made, mkM_bare, PT.bare, bareA_all, (mades_bare l h).1]
theorem mades_bare : ∀ l : List PT, PT.oks l → (PT.mades l).all PT.bare = l.all PT.bare ∧ (PT.mades l).any PT.bare = l.any PT.bare
  | [], _ => ⟨rfl, rfl⟩
  | p :: l, h => by
    obtain ⟨h1, h2⟩ := mades_bare l h.2
    rw [PT.mades, List.all_cons, List.all_cons, List.any_cons, List.any_cons, h1, h2, made_bare p h.1]
    exact ⟨rfl, rfl⟩
end
end Mi

namespace Mi
open PySem L2
def m_any_names_23d34 : List D → MH → R D := mFun 2 8
 (mSeq (mAsg 2 (mC (.str (Str.ofString "abcdefghijklmnopqrstuvwxyz"))))
 (mSeq (mAsg 3 (mLst (mNil)))
 (mSeq (mFor (mRange1 (mVar 1)) (mgName 4)
 (mSeq (mAsg 5 (mBin dAdd (mC (.int 1)) (mBin dMod (mVar 0) (mC (.int 8)))))
 (mSeq (mAsg 0 (mBin dFdiv (mVar 0) (mC (.int 8))))
 (mSeq (mAsg 6 (mC (.str (Str.ofString ""))))
 (mSeq (mWhile 1000 (mB (mBin dLt (mCall dLen (mCons (mVar 6) (mNil))) (mVar 5)))
 (mSeq (mAsg 6 (mBin dAdd (mVar 6) (mBin dIx (mVar 2) (mBin dMod (mVar 0) (mC (.int 26))))))
 (mAsg 0 (mBin dFdiv (mVar 0) (mC (.int 26))))))
 (mSeq (mAsg 7 (mC (.int 0)))
 (mSeq (mWhile 1000 (mB (mBin dIn (mVar 6) (mVar 3)))
 (mSeq (mAsg 6 (mBin dMul (mBin dIx (mVar 2) (mBin dMod (mVar 7) (mC (.int 26)))) (mBin dAdd (mC (.int 1)) (mBin dFdiv (mVar 7) (mC (.int 26))))))
 (mAsg 7 (mBin dAdd (mVar 7) (mC (.int 1))))))
 (mDrop (mMeth isListD dAppend (mVar 3) (mCons (mVar 6) (mNil)))))))))))
 (mRet (mVar 3)))))
def m_names_a4247 : List D → MH → R D := mFun 2 10
 (mSeq (mAsg 2 (mC (.str (Str.ofString "abcdefghijklmnopqrstuvwxyz"))))
 (mSeq (mIf (mB (mBin dGe (mVar 0) (mBin dPow (mC (.int 10)) (mC (.int 18)))))
 (mRet (mCall (m_any_names_23d34) (mCons (mVar 0) (mCons (mVar 1) (mNil)))))
 (mSkip))
 (mSeq (mAsg 3 (mBin dMod (mVar 0) (mC (.int 1000003))))
 (mSeq (mAsg 4 (mMeth isStrD dJoin (mC (.str (Str.ofString ""))) (mCons (mLc (mRange1 (mC (.int 8))) (mgName 8) (mYes) (mBin dIx (mVar 2) (mBin dMod (mBin dMod (mBin dMul (mVar 3) (mBin dAdd (mBin dMul (mVar 8) (mVar 8)) (mC (.int 7)))) (mC (.int 10007))) (mC (.int 26)))) [8]) (mNil))))
 (mSeq (mIf (mB (mBin dEq (mBin dMod (mVar 3) (mC (.int 2))) (mC (.int 0))))
 (mRet (mLc (mRange1 (mVar 1)) (mgName 8) (mYes) (mSl (mVar 4) (mNo) (mSome (mBin dAdd (mVar 8) (mC (.int 1))))) [8]))
 (mSkip))
 (mSeq (mAsg 5 (mBin dMod (mBin dFdiv (mVar 3) (mC (.int 2))) (mC (.int 8))))
 (mSeq (mAsg 6 (mBin dAdd (mBin dAdd (mVar 5) (mC (.int 1))) (mBin dMod (mBin dFdiv (mVar 3) (mC (.int 16))) (mBin dSub (mC (.int 8)) (mVar 5)))))
 (mSeq (mAsg 7 (mLst (mNil)))
 (mSeq (mFor (mRange1 (mVar 1)) (mgName 8)
 (mSeq (mAsg 9 (mBin dAdd (mBin dAdd (mSl (mVar 4) (mNo) (mSome (mVar 5))) (mBin dIx (mVar 2) (mBin dMod (mBin dAdd (mBin dFdiv (mVar 3) (mC (.int 128))) (mVar 8)) (mC (.int 26))))) (mSl (mVar 4) (mSome (mBin dAdd (mVar 5) (mC (.int 1)))) (mNo))))
 (mDrop (mMeth isListD dAppend (mVar 7) (mCons (mSl (mVar 9) (mNo) (mSome (mVar 6))) (mNil))))))
 (mRet (mVar 7)))))))))))
def m_numbers_0d805 : List D → MH → R D := mFun 3 9
 (mSeq (mAsg 3 (mLc (mRange1 (mCall dMax (mCons (mC (.int 1)) (mCons (mCall dMin (mCons (mC (.int 20)) (mCons (mBin dSub (mCall dLen (mCons (mVar 0) (mNil))) (mVar 1)) (mNil)))) (mNil))))) (mgName 6) (mYes) (mCall (m_cell_at_2c4cb) (mCons (mVar 0) (mCons (mBin dAdd (mVar 1) (mVar 6)) (mNil)))) [6]))
 (mSeq (mAsg 4 (mLst (mNil)))
 (mSeq (mAsg 5 (mC (.int 48271)))
 (mSeq (mFor (mRange1 (mVar 2)) (mgName 6)
 (mSeq (mAsg 7 (mBin dMod (mVar 6) (mCall dLen (mCons (mVar 3) (mNil)))))
 (mSeq (mAsg 8 (mBin dMod (mCall (m_cell_at_2c4cb) (mCons (mVar 0) (mCons (mBin dAdd (mVar 1) (mVar 6)) (mNil)))) (mC (.int 2147483647))))
 (mSeq (mAsg 5 (mBin dMod (mBin dAdd (mBin dAdd (mBin dAdd (mBin dMul (mVar 5) (mC (.int 69621))) (mBin dMul (mVar 8) (mC (.int 48271)))) (mBin dMul (mVar 6) (mVar 6))) (mC (.int 1))) (mC (.int 2147483647))))
 (mSeq (mDrop (mMeth isListD dAppend (mVar 4) (mCons (mBin dFdiv (mVar 5) (mC (.int 32))) (mNil))))
 (mIf (mB (mBin dGe (mBin dIx (mVar 3) (mVar 7)) (mBin dPow (mC (.int 10)) (mC (.int 18)))))
 (mSeq (mSetIx (mVar 4) (mVar 6) (mBin dMod (mBin dIx (mVar 3) (mVar 7)) (mC (.int 67108864))))
 (mSetIx (mVar 3) (mVar 7) (mBin dFdiv (mBin dIx (mVar 3) (mVar 7)) (mC (.int 67108864)))))
 (mSkip)))))))
 (mRet (mVar 4))))))
def m_counts_c9c3e : List D → MH → R D := mFun 1 2
 (mSeq (mAsg 1 (mBin dIx (mLst (mCons (mC (.int 0)) (mCons (mC (.int 0)) (mCons (mC (.int 1)) (mCons (mC (.int 2)) (mNil)))))) (mBin dMod (mVar 0) (mC (.int 4)))))
 (mSeq (mIf (mB (mBin dEq (mBin dMod (mBin dFdiv (mVar 0) (mC (.int 4))) (mC (.int 6))) (mC (.int 0))))
 (mAsg 1 (mBin dMod (mBin dFdiv (mVar 0) (mC (.int 24))) (mC (.int 10))))
 (mSkip))
 (mSeq (mIf (mB (mBin dEq (mBin dMod (mBin dFdiv (mVar 0) (mC (.int 240))) (mC (.int 4))) (mC (.int 0))))
 (mRet (mTup (mCons (mVar 1) (mCons (mC .non) (mNil)))))
 (mSkip))
 (mRet (mTup (mCons (mVar 1) (mCons (mCall dMin (mCons (mC (.int 9)) (mCons (mBin dAdd (mVar 1) (mBin dMod (mBin dFdiv (mVar 0) (mC (.int 960))) (mC (.int 4)))) (mNil)))) (mNil))))))))
def m_raw_a00a1 : Nat → List D → MH → R D
 | 0 => fun _ _ => .bad
 | n + 1 => mFun 5 13
    (mSeq (mAsg 5 (mBin dIx (mVar 0) (mVar 1)))
     (mSeq (mAsg 6 (mLst (mCons (mC (.str (Str.ofString "one"))) (mCons (mC (.str (Str.ofString "chain"))) (mCons (mC (.str (Str.ofString "chain"))) (mCons (mC (.str (Str.ofString "chain"))) (mCons (mC (.str (Str.ofString "choice"))) (mCons (mC (.str (Str.ofString "choice"))) (mCons (mC (.str (Str.ofString "mixed"))) (mCons (mC (.str (Str.ofString "mixed"))) (mCons (mC (.str (Str.ofString "mixed"))) (mCons (mC (.str (Str.ofString "times"))) (mCons (mC (.str (Str.ofString "times"))) (mCons (mC (.str (Str.ofString "times"))) (mNil)))))))))))))))
     (mSeq (mIf (mB (mBin dEq (mVar 2) (mC (.int 1))))
     (mAsg 6 (mBin dAdd (mLst (mCons (mC (.str (Str.ofString "one"))) (mCons (mC (.str (Str.ofString "one"))) (mCons (mC (.str (Str.ofString "one"))) (mCons (mC (.str (Str.ofString "one"))) (mCons (mC (.str (Str.ofString "chain"))) (mCons (mC (.str (Str.ofString "choice"))) (mCons (mC (.str (Str.ofString "choice"))) (mCons (mC (.str (Str.ofString "mixed"))) (mNil)))))))))) (mSl (mVar 6) (mSome (mC (.int 8))) (mNo))))
     (mSkip))
     (mSeq (mAsg 7 (mBin dIx (mVar 6) (mBin dMod (mVar 5) (mC (.int 12)))))
     (mSeq (mIf (mAnd (mB (mBin dEq (mVar 2) (mC (.int 0)))) (mB (mBin dEq (mBin dMod (mVar 5) (mC (.int 12))) (mC (.int 11)))))
     (mRet (mTup (mCons (mC (.str (Str.ofString "chain"))) (mCons (mLst (mNil)) (mNil)))))
     (mSkip))
     (mSeq (mIf (mOr (mB (mBin dEq (mVar 7) (mC (.str (Str.ofString "one"))))) (mB (mBin dEq (mVar 2) (mC (.int 0)))))
     (mRet (mTup (mCons (mC (.str (Str.ofString "one"))) (mCons (mBin dIx (mVar 3) (mBin dMod (mBin dFdiv (mVar 5) (mC (.int 12))) (mCall dLen (mCons (mVar 3) (mNil))))) (mNil)))))
     (mSkip))
     (mSeq (mIf (mB (mBin dEq (mVar 7) (mC (.str (Str.ofString "times")))))
     (mSeq (mAsgT (mgTup (mgCons (mgName 10) (mgCons (mgName 11) (mgNil)))) (mCall (m_counts_c9c3e) (mCons (mBin dFdiv (mVar 5) (mC (.int 12))) (mNil))))
     (mRet (mTup (mCons (mC (.str (Str.ofString "times"))) (mCons (mCall (m_raw_a00a1 n) (mCons (mVar 0) (mCons (mBin dAdd (mBin dMul (mC (.int 3)) (mVar 1)) (mC (.int 1))) (mCons (mBin dSub (mVar 2) (mC (.int 1))) (mCons (mVar 3) (mCons (mVar 4) (mNil))))))) (mCons (mVar 10) (mCons (mVar 11) (mNil))))))))
     (mSkip))
     (mSeq (mAsg 8 (mCall dMin (mCons (mVar 4) (mCons (mBin dIx (mLst (mCons (mC (.int 2)) (mCons (mC (.int 3)) (mCons (mC (.int 2)) (mCons (mC (.int 1)) (mCons (mC (.int 3)) (mCons (mC (.int 0)) (mCons (mC (.int 2)) (mCons (mC (.int 3)) (mNil)))))))))) (mBin dMod (mBin dFdiv (mVar 5) (mC (.int 12))) (mC (.int 8)))) (mNil)))))
     (mSeq (mIf (mB (mBin dEq (mVar 7) (mC (.str (Str.ofString "choice")))))
     (mAsg 8 (mCall dMax (mCons (mC (.int 1)) (mCons (mVar 8) (mNil)))))
     (mSkip))
     (mSeq (mAsg 9 (mLc (mRange1 (mVar 8)) (mgName 12) (mYes) (mCall (m_raw_a00a1 n) (mCons (mVar 0) (mCons (mBin dAdd (mBin dAdd (mBin dMul (mC (.int 3)) (mVar 1)) (mC (.int 1))) (mVar 12)) (mCons (mBin dSub (mVar 2) (mC (.int 1))) (mCons (mVar 3) (mCons (mVar 4) (mNil))))))) [12]))
     (mRet (mTup (mCons (mVar 7) (mCons (mVar 9) (mNil)))))))))))))))
def m_bare_of_e3873 : Nat → List D → MH → R D
 | 0 => fun _ _ => .bad
 | n + 1 => mFun 1 3
    (mSeq (mIf (mB (mBin dEq (mBin dIx (mVar 0) (mC (.int 0))) (mC (.str (Str.ofString "one")))))
     (mRet (mC (.bl false)))
     (mSkip))
     (mSeq (mIf (mB (mBin dEq (mBin dIx (mVar 0) (mC (.int 0))) (mC (.str (Str.ofString "times")))))
     (mRet (mOrV (mBin dEq (mBin dIx (mVar 0) (mC (.int 2))) (mC (.int 0))) (mCall (m_bare_of_e3873 n) (mCons (mBin dIx (mVar 0) (mC (.int 1))) (mNil)))))
     (mSkip))
     (mSeq (mAsg 1 (mLc (mIter (mBin dIx (mVar 0) (mC (.int 1)))) (mgName 2) (mYes) (mCall (m_bare_of_e3873 n) (mCons (mVar 2) (mNil))) [2]))
     (mSeq (mIf (mB (mBin dEq (mBin dIx (mVar 0) (mC (.int 0))) (mC (.str (Str.ofString "choice")))))
     (mRet (mBin dIn (mC (.bl true)) (mVar 1)))
     (mSkip))
     (mRet (mBin dNotIn (mC (.bl false)) (mVar 1)))))))
def m_Mixed___init___1502e : List D → MH → R D := mFun 2 2
 (mSetFld [(Str.ofString "Chain"), (Str.ofString "Choice"), (Str.ofString "Mixed")] (Str.ofString "parts") (mVar 0) (mCall dTuple (mCons (mVar 1) (mNil))))
def m_Chain___init___9e3a3 : List D → MH → R D := mFun 2 2
 (mSetFld [(Str.ofString "Chain"), (Str.ofString "Choice"), (Str.ofString "Mixed")] (Str.ofString "parts") (mVar 0) (mCall dTuple (mCons (mVar 1) (mNil))))
def m_is_empty_d2ea2 : List D → MH → R D := mFun 1 1
 (mRet (mAndV (mIsC [((Str.ofString "One"), false), ((Str.ofString "Chain"), true), ((Str.ofString "Choice"), false), ((Str.ofString "Times"), false), ((Str.ofString "Mixed"), false)] (mVar 0)) (mBin dEq (mCall dLen (mCons (mFld [(Str.ofString "Chain"), (Str.ofString "Choice"), (Str.ofString "Mixed")] (Str.ofString "parts") (mVar 0)) (mNil))) (mC (.int 0)))))
def m_mixed_cabfe : List D → MH → R D := mFun 1 3
 (mSeq (mAsg 1 (mLst (mNil)))
 (mSeq (mFor (mIter (mVar 0)) (mgName 2)
 (mIf (mB (mIsC [((Str.ofString "One"), false), ((Str.ofString "Chain"), false), ((Str.ofString "Choice"), false), ((Str.ofString "Times"), false), ((Str.ofString "Mixed"), true)] (mVar 2)))
 (mDrop (mMeth isListD dExtend (mVar 1) (mCons (mCall dList (mCons (mFld [(Str.ofString "Chain"), (Str.ofString "Choice"), (Str.ofString "Mixed")] (Str.ofString "parts") (mVar 2)) (mNil))) (mNil))))
 (mIf (mNot (mB (mCall (m_is_empty_d2ea2) (mCons (mVar 2) (mNil)))))
 (mDrop (mMeth isListD dAppend (mVar 1) (mCons (mVar 2) (mNil))))
 (mSkip))))
 (mSeq (mIf (mB (mBin dEq (mCall dLen (mCons (mVar 1) (mNil))) (mC (.int 0))))
 (mRet (mNew (Str.ofString "Chain") (m_Chain___init___9e3a3) (mCons (mLst (mNil)) (mNil))))
 (mSkip))
 (mSeq (mIf (mB (mBin dEq (mCall dLen (mCons (mVar 1) (mNil))) (mC (.int 1))))
 (mRet (mBin dIx (mVar 1) (mC (.int 0))))
 (mSkip))
 (mRet (mNew (Str.ofString "Mixed") (m_Mixed___init___1502e) (mCons (mVar 1) (mNil))))))))
def m_One___init___d241d : List D → MH → R D := mFun 2 2
 (mSetFld [(Str.ofString "One")] (Str.ofString "form") (mVar 0) (mVar 1))
def m_one_dbedc : List D → MH → R D := mFun 1 1
 (mRet (mNew (Str.ofString "One") (m_One___init___d241d) (mCons (mVar 0) (mNil))))
def m_Times___init___6a51e : List D → MH → R D := mFun 4 4
 (mSeq (mSetFld [(Str.ofString "Times")] (Str.ofString "part") (mVar 0) (mVar 1))
 (mSeq (mSetFld [(Str.ofString "Times")] (Str.ofString "low") (mVar 0) (mVar 2))
 (mSetFld [(Str.ofString "Times")] (Str.ofString "high") (mVar 0) (mVar 3))))
def m_times_2f53e : List D → MH → R D := mFun 3 3
 (mSeq (mIf (mOr (mB (mBin dLt (mVar 1) (mC (.int 0)))) (mB (mBin dGt (mVar 1) (mC (.int 9)))))
 (mRaise0 (Str.ofString "NoPattern"))
 (mSkip))
 (mSeq (mIf (mAnd (mB (mBin dNotN (mVar 2) (mC .non))) (mOr (mB (mBin dLt (mVar 2) (mVar 1))) (mB (mBin dGt (mVar 2) (mC (.int 9))))))
 (mRaise0 (Str.ofString "NoPattern"))
 (mSkip))
 (mSeq (mIf (mOr (mB (mBin dEq (mVar 2) (mC (.int 0)))) (mB (mCall (m_is_empty_d2ea2) (mCons (mVar 0) (mNil)))))
 (mRet (mNew (Str.ofString "Chain") (m_Chain___init___9e3a3) (mCons (mLst (mNil)) (mNil))))
 (mSkip))
 (mSeq (mIf (mAnd (mB (mBin dEq (mVar 1) (mC (.int 1)))) (mB (mBin dEq (mVar 2) (mC (.int 1)))))
 (mRet (mVar 0))
 (mSkip))
 (mRet (mNew (Str.ofString "Times") (m_Times___init___6a51e) (mCons (mVar 0) (mCons (mVar 1) (mCons (mVar 2) (mNil))))))))))
def m_chain_974c3 : List D → MH → R D := mFun 1 3
 (mSeq (mAsg 1 (mLst (mNil)))
 (mSeq (mFor (mIter (mVar 0)) (mgName 2)
 (mIf (mB (mIsC [((Str.ofString "One"), false), ((Str.ofString "Chain"), true), ((Str.ofString "Choice"), false), ((Str.ofString "Times"), false), ((Str.ofString "Mixed"), false)] (mVar 2)))
 (mDrop (mMeth isListD dExtend (mVar 1) (mCons (mCall dList (mCons (mFld [(Str.ofString "Chain"), (Str.ofString "Choice"), (Str.ofString "Mixed")] (Str.ofString "parts") (mVar 2)) (mNil))) (mNil))))
 (mDrop (mMeth isListD dAppend (mVar 1) (mCons (mVar 2) (mNil))))))
 (mSeq (mIf (mB (mBin dEq (mCall dLen (mCons (mVar 1) (mNil))) (mC (.int 1))))
 (mRet (mBin dIx (mVar 1) (mC (.int 0))))
 (mSkip))
 (mRet (mNew (Str.ofString "Chain") (m_Chain___init___9e3a3) (mCons (mVar 1) (mNil)))))))
def m_penned_48f09 : Nat → List D → MH → R D
 | 0 => fun _ _ => .bad
 | n + 1 => mFun 1 3
    (mSeq (mIf (mB (mBin dEq (mBin dIx (mVar 0) (mC (.int 0))) (mC (.str (Str.ofString "one")))))
     (mRet (mBin dIx (mVar 0) (mC (.int 1))))
     (mSkip))
     (mSeq (mIf (mB (mBin dEq (mBin dIx (mVar 0) (mC (.int 0))) (mC (.str (Str.ofString "times")))))
     (mRet (mBin dAdd (mBin dAdd (mBin dAdd (mBin dAdd (mBin dAdd (mBin dAdd (mC (.str (Str.ofString "T"))) (mCall dStr (mCons (mBin dIx (mVar 0) (mC (.int 2))) (mNil)))) (mC (.str (Str.ofString ",")))) (mCall dStr (mCons (mBin dIx (mVar 0) (mC (.int 3))) (mNil)))) (mC (.str (Str.ofString "(")))) (mCall (m_penned_48f09 n) (mCons (mBin dIx (mVar 0) (mC (.int 1))) (mNil)))) (mC (.str (Str.ofString ")")))))
     (mSkip))
     (mSeq (mAsg 1 (mBin dDIx (mDictC [((Str.ofString "chain"), (Str.ofString "C")), ((Str.ofString "choice"), (Str.ofString "O")), ((Str.ofString "mixed"), (Str.ofString "M"))]) (mBin dIx (mVar 0) (mC (.int 0)))))
     (mRet (mBin dAdd (mBin dAdd (mBin dAdd (mVar 1) (mC (.str (Str.ofString "(")))) (mMeth isStrD dJoin (mC (.str (Str.ofString " "))) (mCons (mLc (mIter (mBin dIx (mVar 0) (mC (.int 1)))) (mgName 2) (mYes) (mCall (m_penned_48f09 n) (mCons (mVar 2) (mNil))) [2]) (mNil)))) (mC (.str (Str.ofString ")"))))))))
def m_One_told_38426 : List D → MH → R D := mFun 1 1
 (mRet (mTup (mCons (mC (.str (Str.ofString "one"))) (mCons (mFld [(Str.ofString "One")] (Str.ofString "form") (mVar 0)) (mNil)))))
def m_Chain_told_5991d (S : Nat → List D → MH → R D) : List D → MH → R D := mFun 1 1
 (mRet (mTup (mCons (mC (.str (Str.ofString "chain"))) (mCons (mCall (S 4) (mCons (mFld [(Str.ofString "Chain"), (Str.ofString "Choice"), (Str.ofString "Mixed")] (Str.ofString "parts") (mVar 0)) (mNil))) (mNil)))))
def m_Choice_told_15b0d (S : Nat → List D → MH → R D) : List D → MH → R D := mFun 1 1
 (mRet (mTup (mCons (mC (.str (Str.ofString "choice"))) (mCons (mCall (S 4) (mCons (mFld [(Str.ofString "Chain"), (Str.ofString "Choice"), (Str.ofString "Mixed")] (Str.ofString "parts") (mVar 0)) (mNil))) (mNil)))))
def m_Mixed_told_4747f (S : Nat → List D → MH → R D) : List D → MH → R D := mFun 1 1
 (mRet (mTup (mCons (mC (.str (Str.ofString "mixed"))) (mCons (mCall (S 4) (mCons (mFld [(Str.ofString "Chain"), (Str.ofString "Choice"), (Str.ofString "Mixed")] (Str.ofString "parts") (mVar 0)) (mNil))) (mNil)))))
def m_Times_told_c3621 (S : Nat → List D → MH → R D) : List D → MH → R D := mFun 1 2
 (mSeq (mAsg 1 (mUn dNeg (mC (.int 1))))
 (mSeq (mIf (mB (mBin dNotN (mFld [(Str.ofString "Times")] (Str.ofString "high") (mVar 0)) (mC .non)))
 (mAsg 1 (mFld [(Str.ofString "Times")] (Str.ofString "high") (mVar 0)))
 (mSkip))
 (mRet (mTup (mCons (mC (.str (Str.ofString "times"))) (mCons (mMethI (Str.ofString "told") [((Str.ofString "One"), (m_One_told_38426)), ((Str.ofString "Chain"), (S 0)), ((Str.ofString "Choice"), (S 1)), ((Str.ofString "Times"), (S 3)), ((Str.ofString "Mixed"), (S 2))] (mFld [(Str.ofString "Times")] (Str.ofString "part") (mVar 0)) (mNil)) (mCons (mFld [(Str.ofString "Times")] (Str.ofString "low") (mVar 0)) (mCons (mVar 1) (mNil)))))))))
def m_tolds_6615b (S : Nat → List D → MH → R D) : List D → MH → R D := mFun 1 2
 (mRet (mCall dTuple (mCons (mLc (mIter (mVar 0)) (mgName 1) (mYes) (mMethI (Str.ofString "told") [((Str.ofString "One"), (m_One_told_38426)), ((Str.ofString "Chain"), (S 0)), ((Str.ofString "Choice"), (S 1)), ((Str.ofString "Times"), (S 3)), ((Str.ofString "Mixed"), (S 2))] (mVar 1) (mNil)) [1]) (mNil))))
def m_scc_Chain_told_612a9 : Nat → Nat → List D → MH → R D
 | 0 => fun _ _ _ => .bad
 | n + 1 => fun i => match i with
   | 0 => m_Chain_told_5991d (m_scc_Chain_told_612a9 n)
   | 1 => m_Choice_told_15b0d (m_scc_Chain_told_612a9 n)
   | 2 => m_Mixed_told_4747f (m_scc_Chain_told_612a9 n)
   | 3 => m_Times_told_c3621 (m_scc_Chain_told_612a9 n)
   | 4 => m_tolds_6615b (m_scc_Chain_told_612a9 n)
   | _ => fun _ _ => .bad
def m_each_once_675d0 : List D → MH → R D := mFun 1 5
 (mSeq (mAsg 1 (mDict0))
 (mSeq (mAsg 2 (mLst (mNil)))
 (mSeq (mFor (mIter (mVar 0)) (mgName 3)
 (mSeq (mAsg 4 (mCall (m_penned_48f09 100) (mCons (mMethI (Str.ofString "told") [((Str.ofString "One"), (m_One_told_38426)), ((Str.ofString "Chain"), (m_scc_Chain_told_612a9 40 0)), ((Str.ofString "Choice"), (m_scc_Chain_told_612a9 40 1)), ((Str.ofString "Times"), (m_scc_Chain_told_612a9 40 3)), ((Str.ofString "Mixed"), (m_scc_Chain_told_612a9 40 2))] (mVar 3) (mNil)) (mNil))))
 (mIf (mB (mBin dDNotIn (mVar 4) (mVar 1)))
 (mSeq (mDSet (mVar 1) (mVar 4) (mC (.bl true)))
 (mDrop (mMeth isListD dAppend (mVar 2) (mCons (mVar 3) (mNil)))))
 (mSkip))))
 (mRet (mVar 2)))))
def m_Choice___init___2c9b4 : List D → MH → R D := mFun 2 2
 (mSetFld [(Str.ofString "Chain"), (Str.ofString "Choice"), (Str.ofString "Mixed")] (Str.ofString "parts") (mVar 0) (mCall dTuple (mCons (mVar 1) (mNil))))
def m_choice_458e9 : List D → MH → R D := mFun 1 3
 (mSeq (mAsg 1 (mLst (mNil)))
 (mSeq (mFor (mIter (mVar 0)) (mgName 2)
 (mIf (mB (mIsC [((Str.ofString "One"), false), ((Str.ofString "Chain"), false), ((Str.ofString "Choice"), true), ((Str.ofString "Times"), false), ((Str.ofString "Mixed"), false)] (mVar 2)))
 (mDrop (mMeth isListD dExtend (mVar 1) (mCons (mCall dList (mCons (mFld [(Str.ofString "Chain"), (Str.ofString "Choice"), (Str.ofString "Mixed")] (Str.ofString "parts") (mVar 2)) (mNil))) (mNil))))
 (mDrop (mMeth isListD dAppend (mVar 1) (mCons (mVar 2) (mNil))))))
 (mSeq (mAsg 1 (mCall (m_each_once_675d0) (mCons (mVar 1) (mNil))))
 (mSeq (mIf (mB (mBin dEq (mCall dLen (mCons (mVar 1) (mNil))) (mC (.int 1))))
 (mRet (mBin dIx (mVar 1) (mC (.int 0))))
 (mSkip))
 (mRet (mNew (Str.ofString "Choice") (m_Choice___init___2c9b4) (mCons (mVar 1) (mNil))))))))
def m_built_ca0de : Nat → List D → MH → R D
 | 0 => fun _ _ => .bad
 | n + 1 => mFun 1 3
    (mSeq (mIf (mB (mBin dEq (mBin dIx (mVar 0) (mC (.int 0))) (mC (.str (Str.ofString "one")))))
     (mRet (mCall (m_one_dbedc) (mCons (mBin dIx (mVar 0) (mC (.int 1))) (mNil))))
     (mSkip))
     (mSeq (mIf (mB (mBin dEq (mBin dIx (mVar 0) (mC (.int 0))) (mC (.str (Str.ofString "times")))))
     (mRet (mCallD (m_times_2f53e) [] (mCons (mCall (m_built_ca0de n) (mCons (mBin dIx (mVar 0) (mC (.int 1))) (mNil))) (mCons (mBin dIx (mVar 0) (mC (.int 2))) (mCons (mBin dIx (mVar 0) (mC (.int 3))) (mNil))))))
     (mSkip))
     (mSeq (mAsg 1 (mLc (mIter (mBin dIx (mVar 0) (mC (.int 1)))) (mgName 2) (mYes) (mCall (m_built_ca0de n) (mCons (mVar 2) (mNil))) [2]))
     (mSeq (mIf (mB (mBin dEq (mBin dIx (mVar 0) (mC (.int 0))) (mC (.str (Str.ofString "chain")))))
     (mRet (mCall (m_chain_974c3) (mCons (mVar 1) (mNil))))
     (mSkip))
     (mSeq (mIf (mB (mBin dEq (mBin dIx (mVar 0) (mC (.int 0))) (mC (.str (Str.ofString "choice")))))
     (mRet (mCall (m_choice_458e9) (mCons (mVar 1) (mNil))))
     (mSkip))
     (mRet (mCall (m_mixed_cabfe) (mCons (mVar 1) (mNil)))))))))
def m_One_bare_7e98d : List D → MH → R D := mFun 1 1
 (mRet (mC (.bl false)))
def m_Chain_bare_23255 (S : Nat → List D → MH → R D) : List D → MH → R D := mFun 1 2
 (mRet (mCall dAll (mCons (mLc (mIter (mFld [(Str.ofString "Chain"), (Str.ofString "Choice"), (Str.ofString "Mixed")] (Str.ofString "parts") (mVar 0))) (mgName 1) (mYes) (mMethI (Str.ofString "bare") [((Str.ofString "One"), (m_One_bare_7e98d)), ((Str.ofString "Chain"), (S 0)), ((Str.ofString "Choice"), (S 1)), ((Str.ofString "Times"), (S 3)), ((Str.ofString "Mixed"), (S 2))] (mVar 1) (mNil)) [1]) (mNil))))
def m_Choice_bare_58e6c (S : Nat → List D → MH → R D) : List D → MH → R D := mFun 1 2
 (mRet (mCall dAny (mCons (mLc (mIter (mFld [(Str.ofString "Chain"), (Str.ofString "Choice"), (Str.ofString "Mixed")] (Str.ofString "parts") (mVar 0))) (mgName 1) (mYes) (mMethI (Str.ofString "bare") [((Str.ofString "One"), (m_One_bare_7e98d)), ((Str.ofString "Chain"), (S 0)), ((Str.ofString "Choice"), (S 1)), ((Str.ofString "Times"), (S 3)), ((Str.ofString "Mixed"), (S 2))] (mVar 1) (mNil)) [1]) (mNil))))
def m_Mixed_bare_6b72e (S : Nat → List D → MH → R D) : List D → MH → R D := mFun 1 2
 (mRet (mCall dAll (mCons (mLc (mIter (mFld [(Str.ofString "Chain"), (Str.ofString "Choice"), (Str.ofString "Mixed")] (Str.ofString "parts") (mVar 0))) (mgName 1) (mYes) (mMethI (Str.ofString "bare") [((Str.ofString "One"), (m_One_bare_7e98d)), ((Str.ofString "Chain"), (S 0)), ((Str.ofString "Choice"), (S 1)), ((Str.ofString "Times"), (S 3)), ((Str.ofString "Mixed"), (S 2))] (mVar 1) (mNil)) [1]) (mNil))))
def m_Times_bare_b5c39 (S : Nat → List D → MH → R D) : List D → MH → R D := mFun 1 1
 (mRet (mOrV (mBin dEq (mFld [(Str.ofString "Times")] (Str.ofString "low") (mVar 0)) (mC (.int 0))) (mMethI (Str.ofString "bare") [((Str.ofString "One"), (m_One_bare_7e98d)), ((Str.ofString "Chain"), (S 0)), ((Str.ofString "Choice"), (S 1)), ((Str.ofString "Times"), (S 3)), ((Str.ofString "Mixed"), (S 2))] (mFld [(Str.ofString "Times")] (Str.ofString "part") (mVar 0)) (mNil))))
def m_scc_Chain_bare_b4656 : Nat → Nat → List D → MH → R D
 | 0 => fun _ _ _ => .bad
 | n + 1 => fun i => match i with
   | 0 => m_Chain_bare_23255 (m_scc_Chain_bare_b4656 n)
   | 1 => m_Choice_bare_58e6c (m_scc_Chain_bare_b4656 n)
   | 2 => m_Mixed_bare_6b72e (m_scc_Chain_bare_b4656 n)
   | 3 => m_Times_bare_b5c39 (m_scc_Chain_bare_b4656 n)
   | _ => fun _ _ => .bad
def m_pattern_of_0fd47 : Nat → List D → MH → R D
 | 0 => fun _ _ => .bad
 | n + 1 => mFun 1 3
    (mSeq (mIf (mB (mBin dEq (mBin dIx (mVar 0) (mC (.int 0))) (mC (.str (Str.ofString "one")))))
     (mRet (mCall (m_one_dbedc) (mCons (mBin dIx (mVar 0) (mC (.int 1))) (mNil))))
     (mSkip))
     (mSeq (mIf (mB (mBin dEq (mBin dIx (mVar 0) (mC (.int 0))) (mC (.str (Str.ofString "times")))))
     (mSeq (mIf (mB (mBin dLt (mBin dIx (mVar 0) (mC (.int 3))) (mC (.int 0))))
     (mRet (mCallD (m_times_2f53e) [.non] (mCons (mCall (m_pattern_of_0fd47 n) (mCons (mBin dIx (mVar 0) (mC (.int 1))) (mNil))) (mCons (mBin dIx (mVar 0) (mC (.int 2))) (mNil)))))
     (mSkip))
     (mRet (mCallD (m_times_2f53e) [] (mCons (mCall (m_pattern_of_0fd47 n) (mCons (mBin dIx (mVar 0) (mC (.int 1))) (mNil))) (mCons (mBin dIx (mVar 0) (mC (.int 2))) (mCons (mBin dIx (mVar 0) (mC (.int 3))) (mNil)))))))
     (mSkip))
     (mSeq (mAsg 1 (mLc (mIter (mBin dIx (mVar 0) (mC (.int 1)))) (mgName 2) (mYes) (mCall (m_pattern_of_0fd47 n) (mCons (mVar 2) (mNil))) [2]))
     (mSeq (mIf (mB (mBin dEq (mBin dIx (mVar 0) (mC (.int 0))) (mC (.str (Str.ofString "chain")))))
     (mRet (mCall (m_chain_974c3) (mCons (mVar 1) (mNil))))
     (mSkip))
     (mSeq (mIf (mB (mBin dEq (mBin dIx (mVar 0) (mC (.int 0))) (mC (.str (Str.ofString "choice")))))
     (mRet (mCall (m_choice_458e9) (mCons (mVar 1) (mNil))))
     (mSkip))
     (mRet (mCall (m_mixed_cabfe) (mCons (mVar 1) (mNil)))))))))
def m_law_ca41d : List D → MH → R D := mFun 1 7
 (mSeq (mAsg 1 (mCall (m_names_a4247) (mCons (mCall (m_cell_at_2c4cb) (mCons (mVar 0) (mCons (mC (.int 0)) (mNil)))) (mCons (mC (.int 3)) (mNil)))))
 (mSeq (mAsg 2 (mCall (m_numbers_0d805) (mCons (mVar 0) (mCons (mC (.int 2)) (mCons (mC (.int 40)) (mNil))))))
 (mSeq (mAsg 3 (mCall (m_raw_a00a1 100) (mCons (mVar 2) (mCons (mC (.int 0)) (mCons (mC (.int 3)) (mCons (mVar 1) (mCons (mC (.int 2)) (mNil))))))))
 (mSeq (mIf (mB (mBin dEq (mBin dMod (mCall (m_cell_at_2c4cb) (mCons (mVar 0) (mCons (mC (.int 1)) (mNil)))) (mC (.int 3))) (mC (.int 1))))
 (mAsg 3 (mCall (m_raw_a00a1 100) (mCons (mVar 2) (mCons (mC (.int 0)) (mCons (mC (.int 2)) (mCons (mVar 1) (mCons (mC (.int 3)) (mNil))))))))
 (mSkip))
 (mSeq (mAsg 4 (mCall (m_bare_of_e3873 100) (mCons (mVar 3) (mNil))))
 (mSeq (mAsg 5 (mCall (m_built_ca0de 100) (mCons (mVar 3) (mNil))))
 (mSeq (mIf (mOr (mNot (mB (mIsC [((Str.ofString "One"), true), ((Str.ofString "Chain"), true), ((Str.ofString "Choice"), true), ((Str.ofString "Times"), true), ((Str.ofString "Mixed"), true)] (mVar 5)))) (mOr (mNot (mB (mIsi "bool" (mMethI (Str.ofString "bare") [((Str.ofString "One"), (m_One_bare_7e98d)), ((Str.ofString "Chain"), (m_scc_Chain_bare_b4656 40 0)), ((Str.ofString "Choice"), (m_scc_Chain_bare_b4656 40 1)), ((Str.ofString "Times"), (m_scc_Chain_bare_b4656 40 3)), ((Str.ofString "Mixed"), (m_scc_Chain_bare_b4656 40 2))] (mVar 5) (mNil))))) (mB (mBin dNe (mMethI (Str.ofString "bare") [((Str.ofString "One"), (m_One_bare_7e98d)), ((Str.ofString "Chain"), (m_scc_Chain_bare_b4656 40 0)), ((Str.ofString "Choice"), (m_scc_Chain_bare_b4656 40 1)), ((Str.ofString "Times"), (m_scc_Chain_bare_b4656 40 3)), ((Str.ofString "Mixed"), (m_scc_Chain_bare_b4656 40 2))] (mVar 5) (mNil)) (mVar 4)))))
 (mRet (mC (.bl false)))
 (mSkip))
 (mSeq (mAsg 6 (mMethI (Str.ofString "bare") [((Str.ofString "One"), (m_One_bare_7e98d)), ((Str.ofString "Chain"), (m_scc_Chain_bare_b4656 40 0)), ((Str.ofString "Choice"), (m_scc_Chain_bare_b4656 40 1)), ((Str.ofString "Times"), (m_scc_Chain_bare_b4656 40 3)), ((Str.ofString "Mixed"), (m_scc_Chain_bare_b4656 40 2))] (mCall (m_pattern_of_0fd47 100) (mCons (mMethI (Str.ofString "told") [((Str.ofString "One"), (m_One_told_38426)), ((Str.ofString "Chain"), (m_scc_Chain_told_612a9 40 0)), ((Str.ofString "Choice"), (m_scc_Chain_told_612a9 40 1)), ((Str.ofString "Times"), (m_scc_Chain_told_612a9 40 3)), ((Str.ofString "Mixed"), (m_scc_Chain_told_612a9 40 2))] (mVar 5) (mNil)) (mNil))) (mNil)))
 (mRet (mAndV (mIsi "bool" (mVar 6)) (mBin dEq (mVar 6) (mVar 4))))))))))))
end Mi

namespace Mi
open PySem L2
local macro_rules | `(tactic| walk_at "gl") => `(tactic| first
  | assumption
  | (refine Own.atL (h0 := ?_) (L := ?_) ?_ 0 ?_; rotate_left; rotate_left; assumption; rfl)
  | (refine Own.atL (h0 := ?_) (L := ?_) ?_ 1 ?_; rotate_left; rotate_left; assumption; rfl)
  | (refine Own.atL (h0 := ?_) (L := ?_) ?_ 2 ?_; rotate_left; rotate_left; assumption; rfl)
  | (refine Own.atL (h0 := ?_) (L := ?_) ?_ 3 ?_; rotate_left; rotate_left; assumption; rfl)
  | (refine Own.atL (h0 := ?_) (L := ?_) ?_ 4 ?_; rotate_left; rotate_left; assumption; rfl)
  | (refine Own.atL (h0 := ?_) (L := ?_) ?_ 5 ?_; rotate_left; rotate_left; assumption; rfl)
  | (refine Own.atL (h0 := ?_) (L := ?_) ?_ 6 ?_; rotate_left; rotate_left; assumption; rfl)
  | (refine Own.atL (h0 := ?_) (L := ?_) ?_ 7 ?_; rotate_left; rotate_left; assumption; rfl)
  | (refine Own.atL (h0 := ?_) (L := ?_) ?_ 8 ?_; rotate_left; rotate_left; assumption; rfl)
  | (refine Own.atL (h0 := ?_) (L := ?_) ?_ 9 ?_; rotate_left; rotate_left; assumption; rfl)
  | (refine Own.getL (h0 := ?_) (L := ?_) ?_ ?_; rotate_left; rotate_left; assumption; assumption))
local macro_rules | `(tactic| walk_at "il") => `(tactic| first
  | (refine Own.isL (h0 := ?_) (L := ?_) (l := ?_) ?_ 0 ?_; rotate_left; rotate_left; rotate_left; assumption; rfl)
  | (refine Own.isL (h0 := ?_) (L := ?_) (l := ?_) ?_ 1 ?_; rotate_left; rotate_left; rotate_left; assumption; rfl)
  | (refine Own.isL (h0 := ?_) (L := ?_) (l := ?_) ?_ 2 ?_; rotate_left; rotate_left; rotate_left; assumption; rfl)
  | (refine Own.isL (h0 := ?_) (L := ?_) (l := ?_) ?_ 3 ?_; rotate_left; rotate_left; rotate_left; assumption; rfl)
  | (refine Own.isL (h0 := ?_) (L := ?_) (l := ?_) ?_ 4 ?_; rotate_left; rotate_left; rotate_left; assumption; rfl)
  | (refine Own.isL (h0 := ?_) (L := ?_) (l := ?_) ?_ 5 ?_; rotate_left; rotate_left; rotate_left; assumption; rfl)
  | (refine Own.isL (h0 := ?_) (L := ?_) (l := ?_) ?_ 6 ?_; rotate_left; rotate_left; rotate_left; assumption; rfl)
  | (refine Own.isL (h0 := ?_) (L := ?_) (l := ?_) ?_ 7 ?_; rotate_left; rotate_left; rotate_left; assumption; rfl)
  | (refine Own.isL (h0 := ?_) (L := ?_) (l := ?_) ?_ 8 ?_; rotate_left; rotate_left; rotate_left; assumption; rfl)
  | (refine Own.isL (h0 := ?_) (L := ?_) (l := ?_) ?_ 9 ?_; rotate_left; rotate_left; rotate_left; assumption; rfl))
local macro_rules | `(tactic| walk_at "bd") => `(tactic| first | assumption | omega | (simp; done) | (simp; omega) | (simp [*]; done) | (simp [*]; omega))
local macro_rules | `(tactic| walk_at "w") => `(tactic| first
  | with_reducible refine w_seq ?_
  | with_reducible refine w_asg ?_
  | with_reducible refine w_cons ?_
  | with_reducible refine w_nil ?_
  | with_reducible refine w_c ?_
  | ((with_reducible refine w_var (d := ?_) ?_ ?_); rotate_left; rfl)
  | with_reducible refine w_bin ?_
  | with_reducible refine w_call ?_
  | with_reducible refine w_if ?_
  | with_reducible refine w_B ?_
  | with_reducible refine w_unB ?_
  | with_reducible refine w_ret ?_
  | with_reducible refine w_drop ?_
  | with_reducible refine w_skip ?_
  | with_reducible refine w_eq (dAdd_int _ _ _) ?_
  | with_reducible refine w_eq (dSub_int _ _ _) ?_
  | with_reducible refine w_eq (dEq_int _ _ _) ?_
  | with_reducible refine w_eq (dEq_str _ _ _) ?_
  | with_reducible refine w_eq (dNe_strs _ _ _) ?_
  | with_reducible refine w_eq (dEq_bls _ _ _) ?_
  | with_reducible refine w_eq (dNe_bls _ _ _) ?_
  | with_reducible refine w_eq (dLt_int _ _ _) ?_
  | with_reducible refine w_eq (dLe_int _ _ _) ?_
  | with_reducible refine w_eq (dGt_int _ _ _) ?_
  | with_reducible refine w_eq (dGe_int _ _ _) ?_
  | with_reducible refine w_eq (dNe_int _ _ _) ?_
  | ((with_reducible refine w_mod ?_ ?_); (first | assumption | decide | omega))
  | ((with_reducible refine w_fdiv ?_ ?_); (first | assumption | decide | omega))
  | ((with_reducible refine w_mulS ?_ ?_); (first | decide | omega))
  | ((with_reducible refine w_addS ?_ ?_); (first | assumption | decide | omega))
  | ((with_reducible refine w_lenS ?_ ?_); (first | assumption | decide | omega))
  | ((with_reducible refine w_slS ?_ ?_); (first | assumption | decide | omega))
  | with_reducible refine w_lenTm ?_
  | with_reducible refine w_eq (dLen_tup _ _) ?_
  | with_reducible refine w_eq (dSl_tup _ _ _ _) ?_
  | with_reducible refine w_eq (dMax_ev _ _ _) ?_
  | with_reducible refine w_eq (dMin_ev _ _ _) ?_
  | with_reducible refine w_eq (dAbs_ev _ _) ?_
  | with_reducible refine w_not ?_
  | with_reducible refine w_and ?_
  | with_reducible refine w_or ?_
  | with_reducible refine br_n ?_
  | with_reducible refine br_tt ?_
  | with_reducible refine br_ff ?_
  | ((with_reducible refine br_dt ?_ ?_); (first | assumption | omega | rfl))
  | ((with_reducible refine br_df ?_ ?_); (first | assumption | omega))
  | with_reducible refine w_tup ?_
  | ((with_reducible refine w_toTup ?_ ?_); exact (by simp))
  | with_reducible refine w_lst ?_
  | with_reducible refine w_lc ?_
  | with_reducible refine w_for ?_
  | with_reducible refine w_range1 ?_
  | with_reducible refine w_range2 ?_
  | ((with_reducible refine w_dR1 ?_ ?_); (first | decide | omega))
  | ((with_reducible refine w_dR2 ?_ ?_); (first | decide | omega))
  | with_reducible refine w_iter ?_
  | with_reducible refine w_eq (iter1_tup _ _) ?_
  | with_reducible refine w_eq (iter1_str _ _) ?_
  | with_reducible refine w_sl ?_
  | with_reducible refine w_no ?_
  | with_reducible refine w_some ?_
  | with_reducible refine w_unI ?_
  | with_reducible refine w_meth ?_
  | with_reducible refine w_isi ?_
  | with_reducible refine w_zip ?_
  | with_reducible refine w_ifE ?_
  | with_reducible refine w_andV ?_
  | with_reducible refine w_orV ?_
  | with_reducible refine w_notV ?_
  | with_reducible refine w_andK ?_
  | with_reducible refine w_orK ?_
  | with_reducible refine w_notK ?_
  | with_reducible refine w_revL ?_
  | with_reducible refine w_listRg1 ?_
  | with_reducible refine w_tindex ?_
  | with_reducible refine w_setIx ?_
  | with_reducible refine w_un ?_
  | with_reducible refine w_rev1 ?_
  | with_reducible refine w_rev2 ?_
  | with_reducible refine w_chain ?_
  | with_reducible refine w_chK ?_
  | with_reducible refine w_retN ?_
  | with_reducible refine w_brk ?_
  | with_reducible refine w_cont ?_
  | with_reducible refine w_asgT ?_
  | with_reducible refine w_eq (isi_str_str _ _) ?_
  | with_reducible refine w_eq (isi_int_int _ _) ?_
  | with_reducible refine w_eq (isi_tup_tup _ _) ?_
  | with_reducible refine w_eq (isi_bool_int _ _) ?_
  | with_reducible refine w_eq (isi_str_int _ _) ?_
  | ((with_reducible refine w_lenLm (α := ?_) (f := ?_) (l := ?_) ?_ ?_); rotate_left; rotate_left; rotate_left; walk_at "gl")
  | ((with_reducible refine w_lenL (l := ?_) ?_ ?_); rotate_left; walk_at "gl")
  | ((with_reducible refine w_iterL (l := ?_) ?_ ?_); rotate_left; walk_at "gl"; dsimp only)
  | ((with_reducible refine w_tupL (l := ?_) ?_ ?_); rotate_left; walk_at "gl")
  | ((with_reducible refine w_ixT (d := ?_) ?_ ?_); rotate_left; (first | with_reducible assumption | rfl))
  | ((with_reducible refine w_ixL (l := ?_) (d := ?_) ?_ ?_ ?_); rotate_left; rotate_left; walk_at "gl"; (first | with_reducible assumption | rfl))
  | ((with_reducible refine w_addT ?_ ?_); walk_at "bd")
  | ((with_reducible refine ⟨?_, ?_⟩); (with_reducible (show isListD (.ref _) _ = true)); walk_at "il")
  | with_reducible refine w_tryK ?_
  | with_reducible refine w_raise ?_
  | with_reducible refine w_raise0 ?_
  | with_reducible refine w_isX ?_
  | ((with_reducible refine w_isXK (k := ?_) ?_ ?_); rotate_left; (first | with_reducible exact lkA | (apply lkB; decide +kernel; exact lkA) | (apply lkB; decide +kernel; apply lkB; decide +kernel; exact lkA) | (apply lkB; decide +kernel; apply lkB; decide +kernel; apply lkB; decide +kernel; exact lkA)))
  | with_reducible refine w_xf ?_
  | ((with_reducible refine w_xfK ?_ ?_ ?_); (exact List.mem_cons_self); (decide))
  | with_reducible refine w_eq (isN_xo _) ?_
  | with_reducible refine w_eq (dNeg_int _ _) ?_)
local macro_rules | `(tactic| walk_at "go") => `(tactic| (repeat (walk_at "w")); try dsimp only [List.set])
local macro_rules | `(tactic| walk_at "fn") => `(tactic| ((refine w_fun ?_); simp only [startD, List.map_cons, List.map_nil, List.reduceReplicate, Nat.reduceSub, List.cons_append, List.nil_append]; walk_at "go"))
local macro_rules | `(tactic| walk_at "lk") => `(tactic| first | with_reducible exact lkA | (apply lkB; decide +kernel; walk_at "lk"))
local macro_rules | `(tactic| walk_at "mk") => `(tactic| first | with_reducible exact mkA | (apply mkB; decide +kernel; walk_at "mk"))
local macro_rules | `(tactic| walk_at "fk") => `(tactic| first | with_reducible exact fkA | exact fkN | (apply fkB; decide +kernel; walk_at "fk"))
local macro_rules | `(tactic| walk_at "cs") => `(tactic| first | exact List.mem_cons_self | (apply List.mem_cons_of_mem; walk_at "cs"))
local macro_rules | `(tactic| walk_at "w") => `(tactic| first
  | with_reducible refine w_fld ?_
  | ((with_reducible refine w_fldK (c := ?_) (fs := ?_) (v := ?_) ?_ ?_ ?_ ?_); rotate_left; rotate_left; rotate_left; (with_reducible assumption); (walk_at "cs"); (walk_at "fk"))
  | with_reducible refine w_setFld ?_
  | with_reducible refine w_new ?_
  | with_reducible refine w_methI ?_
  | ((with_reducible refine w_methK (c := ?_) (fs := ?_) (F := ?_) ?_ ?_ ?_ ?_); rotate_left; rotate_left; rotate_left; (with_reducible assumption); (walk_at "mk"); (walk_at "fk"))
  | with_reducible refine w_isC ?_
  | ((with_reducible refine w_isCK (c := ?_) (fs := ?_) (k := ?_) ?_ ?_ ?_); rotate_left; rotate_left; rotate_left; (with_reducible assumption); (walk_at "lk"))
  | with_reducible refine w_callD ?_
  | with_reducible refine w_mDSet ?_
  | with_reducible refine w_eq (nN_non _) ?_
  | with_reducible refine w_eq (nN_int _ _) ?_
  | with_reducible refine w_eq (nN_tup _ _) ?_
  | with_reducible refine w_eq (nN_ref _ _) ?_
  | with_reducible refine w_eq (iN_non _) ?_
  | with_reducible refine w_eq (iN_int _ _) ?_
  | with_reducible refine w_eq (iN_tup _ _) ?_
  | with_reducible refine w_eq (iN_ref _ _) ?_)
/-! Patterns in the heap. -/
def mS (l : List Nat) : Str := ⟨l.toArray⟩
theorem mS_cps (l : List Nat) : (mS l).cps.toList = l := rfl
theorem mS_len (l : List Nat) : (mS l).length = l.length := by rw [str_len]; rfl
theorem mS_app (a b : List Nat) : mS a ++ mS b = mS (a ++ b) := by
  apply Str.ext'
  apply Array.toList_inj.mp
  show ((mS a).cps ++ (mS b).cps).toList = a ++ b
  simp [mS]
theorem mS_of (x : Str) : mS x.cps.toList = x := rfl
theorem mS_inj {a b : List Nat} : mS a = mS b ↔ a = b := ⟨fun h => by have := congrArg (fun z : Str => z.cps.toList) h; exact this, fun h => by rw [h]⟩
/-! size, depth -/
mutual
def PT.sz : PT → Nat
  | .one _ => 1
  | .times p _ _ => 1 + p.sz
  | .chain l => 1 + PT.szs l
  | .choice l => 1 + PT.szs l
  | .mixed l => 1 + PT.szs l
def PT.szs : List PT → Nat
  | [] => 0
  | p :: l => p.sz + PT.szs l
end
mutual
def PT.dep : PT → Nat
  | .one _ => 1
  | .times p _ _ => 1 + p.dep
  | .chain l => 1 + PT.deps l
  | .choice l => 1 + PT.deps l
  | .mixed l => 1 + PT.deps l
def PT.deps : List PT → Nat
  | [] => 0
  | p :: l => max p.dep (PT.deps l)
end
theorem pdeps_le {n : Nat} : ∀ {l : List PT}, PT.deps l ≤ n ↔ ∀ p ∈ l, p.dep ≤ n
  | [] => by simp [PT.deps]
  | p :: l => by rw [PT.deps, Nat.max_le, pdeps_le (l := l)]; simp
theorem pszs_sum : ∀ l : List PT, PT.szs l = (l.map PT.sz).sum
  | [] => rfl
  | p :: l => by rw [PT.szs, pszs_sum l]; rfl
theorem psz_pos (p : PT) : 1 ≤ p.sz := by cases p <;> rw [PT.sz] <;> omega
theorem plen_szs : ∀ l : List PT, l.length ≤ PT.szs l
  | [] => Nat.zero_le _
  | p :: l => by have := psz_pos p; have := plen_szs l; rw [PT.szs, List.length_cons]; omega
theorem pszs_app (a b : List PT) : PT.szs (a ++ b) = PT.szs a + PT.szs b := by simp [pszs_sum]
theorem pszs_mem {l : List PT} {p : PT} (h : p ∈ l) : p.sz ≤ PT.szs l := by
  induction l with
  | nil => simp at h
  | cons q l ih =>
    rw [PT.szs]
    rcases List.mem_cons.mp h with rfl | h
    · omega
    · have := ih h; omega
theorem dg_len {i : Int} (h : -1 ≤ i ∧ i ≤ 9) : (dg i).length ≤ 2 := by
  by_cases c : i = -1
  · rw [c, dg_neg]; simp
  · rw [dg_small (by omega)]; simp
theorem hi_le {lo : Int} {hi : Option Int} (hl : 0 ≤ lo) (h : ∀ k, hi = some k → lo ≤ k ∧ k ≤ 9) : -1 ≤ hi.getD (-1) ∧ hi.getD (-1) ≤ 9 := by
  cases hi with
  | none => simp
  | some k => have := h k rfl; simp; omega
mutual
theorem pen_len : ∀ p : PT, p.ok → p.pen.length + 1 ≤ 12 * p.sz
  | .one x, h => by
    have := (h : Nm x).2.1
    rw [PT.pen, PT.sz, ← str_len]; omega
  | .times p lo hi, h => by
    have h1 := pen_len p h.1
    have h2 := dg_len (i := lo) (by have := h.2.1; omega)
    have h3 := dg_len (hi_le h.2.1.1 h.2.2)
    rw [PT.pen, PT.sz]
    simp only [List.length_cons, List.length_append, List.length_nil]
    omega
  | .chain l, h => by have := (jn_len l h).1; rw [PT.pen, PT.sz]; simp only [List.length_cons]; omega
  | .choice l, h => by have := (jn_len l h).1; rw [PT.pen, PT.sz]; simp only [List.length_cons]; omega
  | .mixed l, h => by have := (jn_len l h).1; rw [PT.pen, PT.sz]; simp only [List.length_cons]; omega
theorem jn_len : ∀ l : List PT, PT.oks l → (PT.jn l).length ≤ 12 * PT.szs l + 1 ∧ (PT.jt l).length ≤ 12 * PT.szs l + 1
  | [], _ => by simp [PT.jn, PT.jt]
  | p :: l, h => by
    have h1 := pen_len p h.1
    have h2 := jn_len l h.2
    rw [PT.jn, PT.jt, PT.szs]
    simp only [List.length_cons, List.length_append]
    omega
end
/-! what is told -/
def hiT (hi : Option Int) : Int := hi.getD (-1)
mutual
def PT.tD : PT → D
  | .one x => .tup [.str (Str.ofString "one"), .str x]
  | .times p lo hi => .tup [.str (Str.ofString "times"), p.tD, .int lo, .int (hi.getD (-1))]
  | .chain l => .tup [.str (Str.ofString "chain"), .tup (PT.tDs l)]
  | .choice l => .tup [.str (Str.ofString "choice"), .tup (PT.tDs l)]
  | .mixed l => .tup [.str (Str.ofString "mixed"), .tup (PT.tDs l)]
def PT.tDs : List PT → List D
  | [] => []
  | p :: l => p.tD :: PT.tDs l
end
theorem tDs_eq : ∀ l : List PT, PT.tDs l = l.map PT.tD
  | [] => rfl
  | p :: l => by rw [PT.tDs, tDs_eq l]; rfl
/-! in the heap -/
def hiD : Option Int → D
  | none => .non
  | some k => .int k
def InsL (h : MH) (c : Str) (d : D) (es : List D) : Prop := ∃ i, d = .ref i ∧ h[i]? = some (.ins c [(Str.ofString "parts", .tup es)])
mutual
def Pat (h : MH) : PT → D → Prop
  | .one x, d => ∃ i, d = .ref i ∧ h[i]? = some (.ins (Str.ofString "One") [(Str.ofString "form", .str x)])
  | .times p lo hi, d => ∃ i e, d = .ref i ∧ h[i]? = some (.ins (Str.ofString "Times") [(Str.ofString "part", e), (Str.ofString "low", .int lo), (Str.ofString "high", hiD hi)]) ∧ Pat h p e
  | .chain l, d => ∃ es, InsL h (Str.ofString "Chain") d es ∧ Pats h l es
  | .choice l, d => ∃ es, InsL h (Str.ofString "Choice") d es ∧ Pats h l es
  | .mixed l, d => ∃ es, InsL h (Str.ofString "Mixed") d es ∧ Pats h l es
def Pats (h : MH) : List PT → List D → Prop
  | [], es => es = []
  | p :: l, es => ∃ d ds, es = d :: ds ∧ Pat h p d ∧ Pats h l ds
end
theorem InsL.mono {h h' : MH} {c : Str} {d : D} {es : List D} (p : h <+: h') (x : InsL h c d es) : InsL h' c d es := by
  obtain ⟨i, e1, e2⟩ := x
  exact ⟨i, e1, pre_get p e2⟩
mutual
theorem Pat.mono {h h' : MH} (pr : h <+: h') : ∀ (p : PT) (d : D), Pat h p d → Pat h' p d
  | .one x, d, ⟨i, e1, e2⟩ => ⟨i, e1, pre_get pr e2⟩
  | .times p lo hi, d, ⟨i, e, e1, e2, e3⟩ => ⟨i, e, e1, pre_get pr e2, Pat.mono pr p e e3⟩
  | .chain l, d, ⟨es, e1, e2⟩ => ⟨es, e1.mono pr, Pats.mono pr l es e2⟩
  | .choice l, d, ⟨es, e1, e2⟩ => ⟨es, e1.mono pr, Pats.mono pr l es e2⟩
  | .mixed l, d, ⟨es, e1, e2⟩ => ⟨es, e1.mono pr, Pats.mono pr l es e2⟩
theorem Pats.mono {h h' : MH} (pr : h <+: h') : ∀ (l : List PT) (es : List D), Pats h l es → Pats h' l es
  | [], _, e => e
  | p :: l, _, ⟨d, ds, e, h1, h2⟩ => ⟨d, ds, e, Pat.mono pr p d h1, Pats.mono pr l ds h2⟩
end
theorem Pats.len {h : MH} : ∀ {l : List PT} {es : List D}, Pats h l es → es.length = l.length
  | [], _, e => by rw [show _ = [] from e]; rfl
  | p :: l, _, ⟨d, ds, e, h1, h2⟩ => by rw [e, List.length_cons, List.length_cons, Pats.len h2]
theorem Pats.get {h : MH} : ∀ {l : List PT} {es : List D} {i : Nat} {d : D}, Pats h l es → es[i]? = some d → ∃ p, l[i]? = some p ∧ Pat h p d
  | [], es, i, d, e, g => by rw [show es = [] from e] at g; simp at g
  | p :: l, _, 0, d, ⟨d', ds, e, h1, h2⟩, g => by
    subst e
    simp only [List.getElem?_cons_zero, Option.some.injEq] at g
    subst g
    exact ⟨p, rfl, h1⟩
  | p :: l, _, i + 1, d, ⟨d', ds, e, h1, h2⟩, g => by
    subst e
    obtain ⟨q, e1, e2⟩ := Pats.get (i := i) h2 (by simpa using g)
    exact ⟨q, by simpa using e1, e2⟩
theorem Pats.app {h : MH} : ∀ {l m : List PT} {es fs : List D}, Pats h l es → Pats h m fs → Pats h (l ++ m) (es ++ fs)
  | [], m, es, fs, e, g => by rw [show es = [] from e]; exact g
  | p :: l, m, _, fs, ⟨d, ds, e, h1, h2⟩, g => by subst e; exact ⟨d, ds ++ fs, rfl, h1, Pats.app h2 g⟩
theorem Pats.one {h : MH} {p : PT} {d : D} (x : Pat h p d) : Pats h [p] [d] := ⟨d, [], rfl, x, rfl⟩
theorem Pats.snoc {h : MH} {l : List PT} {es : List D} {p : PT} {d : D} (g : Pats h l es) (x : Pat h p d) : Pats h (l ++ [p]) (es ++ [d]) := g.app (Pats.one x)
theorem get_new {h : MH} {x : MO} : (h ++ [x])[h.length]? = some x := by simp
theorem take_snP {α : Type} {l : List α} {k : Nat} {x : α} (e : l[k]? = some x) : l.take (k + 1) = l.take k ++ [x] := by
  rw [List.take_succ, e]; rfl
/-! ### told -/
abbrev tabT (n : Nat) : MTab := [((Str.ofString "One"), (m_One_told_38426)), ((Str.ofString "Chain"), (m_scc_Chain_told_612a9 n 0)), ((Str.ofString "Choice"), (m_scc_Chain_told_612a9 n 1)), ((Str.ofString "Times"), (m_scc_Chain_told_612a9 n 3)), ((Str.ofString "Mixed"), (m_scc_Chain_told_612a9 n 2))]
def ToldAt (n : Nat) : Prop := ∀ (p : PT) (d : D) (h : MH) (ρ : Slots), Pat h p d → 2 * p.dep ≤ n → p.sz ≤ 10000 → Sat (methK (Str.ofString "told") (tabT n) mNil ρ d h) (fun y h' => h <+: h' ∧ y = p.tD) noX
theorem k_tolds {n : Nat} (ih : ToldAt n) {l : List PT} {es : List D} {h : MH} (hp : Pats h l es) (hd : 2 * PT.deps l ≤ n) (hs : PT.szs l ≤ 10000) : Sat (m_scc_Chain_told_612a9 (n + 1) 4 [.tup es] h) (fun y h' => h <+: h' ∧ y = .tup (PT.tDs l)) noX := by
  have hlen := hp.len
  have hl2 := plen_szs l
  show Sat (m_tolds_6615b (m_scc_Chain_told_612a9 n) [.tup es] h) _ _
  walk_at "fn"
  refine o_compS (σ := Unit) (fun _ => []) (fun k acc _ => acc = ((l.take k).map PT.tD)) (s0 := ()) (Own.nil h) rfl (by omega) (fun _ _ _ _ _ => rfl) ?_ ?_
  · rintro i d acc _ c h' hd' ha hI ow
    obtain ⟨p, ep, hpp⟩ := hp.get hd'
    have hm := List.mem_of_getElem? ep
    refine ⟨_, rfl, ?_⟩
    dsimp only [wipeD, List.set]
    walk_at "go"
    refine (ih p d h' _ (hpp.mono ow.pre) (by have := pdeps_le.mp (Nat.le_refl _) p hm; omega) (by have := pszs_mem hm; omega)).mono ?_
    rintro y h2 ⟨p2, rfl⟩
    refine ⟨(), ow.ext p2, ?_⟩
    rw [hI, take_snP ep, List.map_append]
    rfl
  · rintro acc _ c h' ha hI ow
    rw [hlen, List.take_length] at hI
    subst hI
    walk_at "go"
    exact ⟨ow.pre, by rw [tDs_eq]⟩
theorem k_told : ∀ n, ToldAt n
  | 0 => fun p d h ρ hp hn _ => by have : 1 ≤ p.dep := by cases p <;> rw [PT.dep] <;> omega
                                   omega
  | 1 => fun p d h ρ hp hn _ => by have : 1 ≤ p.dep := by cases p <;> rw [PT.dep] <;> omega
                                   omega
  | n + 2 => fun p d h ρ hp hn hs => by
    have kl : ∀ (w : String) (c : Str) (l : List PT) (es : List D), Pats h l es → 2 * (1 + PT.deps l) ≤ n + 2 → 1 + PT.szs l ≤ 10000 → Sat (m_scc_Chain_told_612a9 (n + 1) 4 [.tup es] h) (fun y h' => h <+: h' ∧ y = .tup (PT.tDs l)) noX :=
      fun w c l es hp hn hs => k_tolds (k_told n) hp (by omega) (by omega)
    cases p with
    | one x =>
      obtain ⟨i, rfl, e⟩ := hp
      refine w_methK e mkA (by walk_at "fk") ?_
      walk_at "go"
      walk_at "fn"
      exact ⟨List.prefix_rfl, rfl⟩
    | times p lo hi =>
      obtain ⟨i, e1, rfl, e, hp⟩ := hp
      refine w_methK e (by walk_at "mk") (by walk_at "fk") ?_
      walk_at "go"
      show Sat (m_Times_told_c3621 (m_scc_Chain_told_612a9 (n + 1)) [.ref i] h) _ _
      have fin : ∀ o : D, Sat (methK (Str.ofString "told") (tabT (n + 1)) mNil [some (.ref i), some o] e1 h) (fun y h' => h <+: h' ∧ y = p.tD) noX := fun o => k_told (n + 1) p e1 h _ hp (by rw [PT.dep] at hn; omega) (by rw [PT.sz] at hs; omega)
      have fin2 : ∀ (j : Int), Sat (methK (Str.ofString "told") (tabT (n + 1)) mNil [some (.ref i), some (.int j)] e1 h) (fun y h' => Sat (mCons (mFld [(Str.ofString "Times")] (Str.ofString "low") (mVar 0)) (mCons (mVar 1) mNil) [some (.ref i), some (.int j)] h') (fun xs h2 => Sat (toTup ((.str (Str.ofString "times")) :: y :: xs) h2) (fun y h' => h <+: h' ∧ y = .tup [.str (Str.ofString "times"), p.tD, .int lo, .int j]) noX) noX) noX := fun j => by
        refine (fin (.int j)).mono ?_
        rintro y h2 ⟨p2, rfl⟩
        have e9 := pre_get p2 e
        walk_at "go"
        exact ⟨p2, rfl⟩
      cases hi with
      | none =>
        unfold hiD at e
        walk_at "fn"
        exact fin2 (-1)
      | some k =>
        unfold hiD at e
        walk_at "fn"
        exact fin2 k
    | chain l =>
      obtain ⟨es, ⟨i, rfl, e⟩, hp⟩ := hp
      refine w_methK e (by walk_at "mk") (by walk_at "fk") ?_
      walk_at "go"
      show Sat (m_Chain_told_5991d (m_scc_Chain_told_612a9 (n + 1)) [.ref i] h) _ _
      walk_at "fn"
      refine (kl "" (Str.ofString "") l es hp (by rw [PT.dep] at hn; omega) (by rw [PT.sz] at hs; omega)).mono ?_
      rintro y h' ⟨p', rfl⟩
      walk_at "go"
      exact ⟨p', rfl⟩
    | choice l =>
      obtain ⟨es, ⟨i, rfl, e⟩, hp⟩ := hp
      refine w_methK e (by walk_at "mk") (by walk_at "fk") ?_
      walk_at "go"
      show Sat (m_Choice_told_15b0d (m_scc_Chain_told_612a9 (n + 1)) [.ref i] h) _ _
      walk_at "fn"
      refine (kl "" (Str.ofString "") l es hp (by rw [PT.dep] at hn; omega) (by rw [PT.sz] at hs; omega)).mono ?_
      rintro y h' ⟨p', rfl⟩
      walk_at "go"
      exact ⟨p', rfl⟩
    | mixed l =>
      obtain ⟨es, ⟨i, rfl, e⟩, hp⟩ := hp
      refine w_methK e (by walk_at "mk") (by walk_at "fk") ?_
      walk_at "go"
      show Sat (m_Mixed_told_4747f (m_scc_Chain_told_612a9 (n + 1)) [.ref i] h) _ _
      walk_at "fn"
      refine (kl "" (Str.ofString "") l es hp (by rw [PT.dep] at hn; omega) (by rw [PT.sz] at hs; omega)).mono ?_
      rintro y h' ⟨p', rfl⟩
      walk_at "go"
      exact ⟨p', rfl⟩
/-! ### penned -/
mutual
def PT.jb : List PT → List Nat
  | [] => []
  | p :: l => p.pen ++ PT.jc l
def PT.jc : List PT → List Nat
  | [] => []
  | p :: l => 32 :: (p.pen ++ PT.jc l)
end
theorem jt_jc : ∀ l : List PT, PT.jt l = PT.jc l ++ [41]
  | [] => rfl
  | p :: l => by rw [PT.jt, PT.jc, jt_jc l]; simp
theorem jn_jb (l : List PT) : PT.jn l = PT.jb l ++ [41] := by
  cases l with
  | nil => rfl
  | cons p l => rw [PT.jn, PT.jb, jt_jc]; simp
theorem t_gap : Str.ofString " " = mS [32] := by decide +kernel
theorem t_open : Str.ofString "(" = mS [40] := by decide +kernel
theorem t_shut : Str.ofString ")" = mS [41] := by decide +kernel
theorem t_comma : Str.ofString "," = mS [44] := by decide +kernel
theorem t_T : Str.ofString "T" = mS [84] := by decide +kernel
theorem t_C : Str.ofString "C" = mS [67] := by decide +kernel
theorem t_O : Str.ofString "O" = mS [79] := by decide +kernel
theorem t_M : Str.ofString "M" = mS [77] := by decide +kernel
theorem join_jb (l : List PT) : Txt.join (Str.ofString " ") (l.map fun p => mS p.pen) = mS (PT.jb l) := by
  have e : Txt.join (Str.ofString " ") (l.map fun p => mS p.pen) = Str.join (Str.ofString " ") (l.map fun p => mS p.pen) := StrLaws.glued_eq_join _ _
  rw [e]
  clear e
  induction l with
  | nil => rfl
  | cons d l ih =>
    cases l with
    | nil => show mS d.pen = mS (PT.jb [d]); rw [PT.jb, PT.jc, List.append_nil]
    | cons k l =>
      rw [List.map_cons] at ih
      have e2 : PT.jb (d :: k :: l) = d.pen ++ ([32] ++ PT.jb (k :: l)) := by rw [PT.jb, PT.jc, PT.jb]; simp
      rw [e2, List.map_cons, List.map_cons, Str.join, ih, t_gap, mS_app, mS_app]
      · simp
      · intro z; cases z
theorem jb_len {l : List PT} (h : PT.oks l) : (PT.jb l).length ≤ 12 * PT.szs l := by
  have := (jn_len l h).1
  rw [jn_jb, List.length_append, List.length_singleton] at this
  omega
theorem sum_pens {l : List PT} (h : ∀ p ∈ l, p.ok) : (l.map fun p => p.pen.length).sum + l.length ≤ 12 * PT.szs l := by
  induction l with
  | nil => simp
  | cons p l ih =>
    have h1 := pen_len p (h p List.mem_cons_self)
    have h2 := ih fun q hq => h q (List.mem_cons_of_mem _ hq)
    rw [List.map_cons, List.sum_cons, List.length_cons, PT.szs]
    omega
theorem w_strI {i : Int} {h : MH} {Q : D → MH → Prop} {E : XE} (hi : -1 ≤ i ∧ i ≤ 9) (q : Q (.str (mS (dg i))) h) : Sat (dStr [.int i] h) Q E := by
  refine w_eq (show dStr [.int i] h = .ok (.str (mS (dg i))) h from ?_) q
  have e : i.natAbs.log2 < 1920 := by
    have h1 : i.natAbs ≤ 9 := by omega
    have h2 : i.natAbs < 2 ^ 1920 := Nat.lt_of_le_of_lt h1 (by decide +kernel)
    by_cases z : i.natAbs = 0
    · rw [z]; decide +kernel
    · exact (Nat.log2_lt z).mpr h2
  simp only [dStr, e, if_true]
  rfl
theorem neOne (s : String) (h : (Str.ofString s == Str.ofString "one") = false := by decide +kernel) : ¬ Str.ofString s = Str.ofString "one" := fun z => by rw [z] at h; simp at h
theorem neTimes (s : String) (h : (Str.ofString s == Str.ofString "times") = false := by decide +kernel) : ¬ Str.ofString s = Str.ofString "times" := fun z => by rw [z] at h; simp at h
theorem k_pen : ∀ (n : Nat) (p : PT) (h : MH), p.ok → p.dep ≤ n → p.sz ≤ 10000 → Sat (m_penned_48f09 n [p.tD] h) (fun y h' => h <+: h' ∧ y = .str (mS p.pen)) noX
  | 0, p, h, _, hn, _ => by have : 1 ≤ p.dep := by cases p <;> rw [PT.dep] <;> omega
                            omega
  | n + 1, .one x, h, hp, hn, hs => by
    rw [PT.tD]
    unfold m_penned_48f09
    walk_at "fn"
    exact ⟨List.prefix_rfl, by rw [PT.pen, mS_of]⟩
  | n + 1, .times p lo hi, h, hp, hn, hs => by
    have n1 := neOne "times"
    have hl := pen_len _ hp
    have hl2 : (PT.times p lo hi).pen.length ≤ 120000 := by omega
    rw [PT.pen] at hl2
    simp only [List.length_cons, List.length_append, List.length_nil] at hl2
    have hlo : -1 ≤ lo ∧ lo ≤ 9 := by have := hp.2.1; omega
    have hhi := hi_le hp.2.1.1 hp.2.2
    rw [PT.tD]
    unfold m_penned_48f09
    walk_at "fn"
    refine w_strI hlo ?_
    rw [t_T, t_comma, t_open, t_shut]
    walk_at "go"
    refine w_addS (by rw [mS_len, mS_len]; simp; omega) ?_
    rw [mS_app]
    walk_at "go"
    refine w_addS (by rw [mS_len, mS_len]; simp; omega) ?_
    rw [mS_app]
    walk_at "go"
    refine w_strI hhi ?_
    refine w_addS (by rw [mS_len, mS_len]; simp; omega) ?_
    rw [mS_app]
    walk_at "go"
    refine w_addS (by rw [mS_len, mS_len]; simp; omega) ?_
    rw [mS_app]
    walk_at "go"
    refine (k_pen n p h hp.1 (by rw [PT.dep] at hn; omega) (by rw [PT.sz] at hs; omega)).mono ?_
    rintro y h2 ⟨p2, rfl⟩
    refine w_addS (by rw [mS_len, mS_len]; simp; omega) ?_
    rw [mS_app]
    walk_at "go"
    refine w_addS (by rw [mS_len, mS_len]; simp; omega) ?_
    rw [mS_app]
    exact ⟨p2, by rw [PT.pen]; simp⟩
  | n + 1, .chain l, h, hp, hn, hs => by
    have n1 := neOne "chain"
    have n2 := neTimes "chain"
    have hok := oks_iff.mp (hp : PT.oks l)
    have hl := jb_len (hp : PT.oks l)
    have hsm := sum_pens hok
    rw [PT.sz] at hs
    rw [PT.dep] at hn
    have hpd := pdeps_le.mp (Nat.le_refl (PT.deps l))
    rw [PT.tD]
    unfold m_penned_48f09
    walk_at "fn"
    refine w_dictC ?_
    walk_at "go"
    refine w_dIx (v := .str (Str.ofString "C")) rfl get_new (by decide +kernel) ?_
    generalize hh1 : h ++ [MO.dK _] = h1
    have p1 : h <+: h1 := hh1 ▸ List.prefix_append _ _
    rw [t_C, t_open, t_shut]
    walk_at "go"
    rw [mS_app]
    refine ⟨isStrD_str _ _, ?_⟩
    walk_at "go"
    refine o_compS (σ := Unit) (fun _ => []) (fun k acc _ => acc = ((l.take k).map fun p => D.str (mS p.pen))) (s0 := ()) (Own.nil h1) rfl (by rw [tDs_eq, List.length_map]; have := plen_szs l; omega) (fun _ _ _ _ _ => rfl) ?_ ?_
    · rintro i d acc _ c' h' hd' ha hI ow
      rw [tDs_eq, List.getElem?_map, Option.map_eq_some_iff] at hd'
      obtain ⟨k, ek, rfl⟩ := hd'
      have hkm := List.mem_of_getElem? ek
      refine ⟨_, rfl, ?_⟩
      dsimp only [wipeD, List.set]
      walk_at "go"
      refine (k_pen n k h' (hok k hkm) (by have := hpd k hkm; omega) (by have := pszs_mem hkm; omega)).mono ?_
      rintro r h2 ⟨p2, rfl⟩
      refine ⟨(), ow.ext p2, ?_⟩
      rw [hI, take_snP ek, List.map_append]
      rfl
    · rintro acc _ c' h' ha hI ow
      rw [tDs_eq, List.length_map, List.take_length] at hI
      subst hI
      walk_at "go"
      refine w_join (ys := l.map fun p => mS p.pen) (by rw [List.map_map]; exact ow.atL 0 rfl) ?_ ?_
      · rw [List.map_map, List.length_map, t_gap, mS_len]
        have : (l.map (Str.length ∘ fun p => mS p.pen)) = l.map fun p => p.pen.length := List.map_congr_left fun d _ => mS_len _
        rw [this]
        simp
        omega
      rw [join_jb]
      refine w_addS (by rw [mS_len, mS_len]; simp; omega) ?_
      rw [mS_app]
      walk_at "go"
      refine w_addS (by rw [mS_len, mS_len]; simp; omega) ?_
      rw [mS_app]
      refine ⟨p1.trans ow.pre, ?_⟩
      rw [PT.pen, jn_jb]
      simp
  | n + 1, .choice l, h, hp, hn, hs => by
    have n1 := neOne "choice"
    have n2 := neTimes "choice"
    have hok := oks_iff.mp (hp : PT.oks l)
    have hl := jb_len (hp : PT.oks l)
    have hsm := sum_pens hok
    rw [PT.sz] at hs
    rw [PT.dep] at hn
    have hpd := pdeps_le.mp (Nat.le_refl (PT.deps l))
    rw [PT.tD]
    unfold m_penned_48f09
    walk_at "fn"
    refine w_dictC ?_
    walk_at "go"
    refine w_dIx (v := .str (Str.ofString "O")) rfl get_new (by decide +kernel) ?_
    generalize hh1 : h ++ [MO.dK _] = h1
    have p1 : h <+: h1 := hh1 ▸ List.prefix_append _ _
    rw [t_O, t_open, t_shut]
    walk_at "go"
    rw [mS_app]
    refine ⟨isStrD_str _ _, ?_⟩
    walk_at "go"
    refine o_compS (σ := Unit) (fun _ => []) (fun k acc _ => acc = ((l.take k).map fun p => D.str (mS p.pen))) (s0 := ()) (Own.nil h1) rfl (by rw [tDs_eq, List.length_map]; have := plen_szs l; omega) (fun _ _ _ _ _ => rfl) ?_ ?_
    · rintro i d acc _ c' h' hd' ha hI ow
      rw [tDs_eq, List.getElem?_map, Option.map_eq_some_iff] at hd'
      obtain ⟨k, ek, rfl⟩ := hd'
      have hkm := List.mem_of_getElem? ek
      refine ⟨_, rfl, ?_⟩
      dsimp only [wipeD, List.set]
      walk_at "go"
      refine (k_pen n k h' (hok k hkm) (by have := hpd k hkm; omega) (by have := pszs_mem hkm; omega)).mono ?_
      rintro r h2 ⟨p2, rfl⟩
      refine ⟨(), ow.ext p2, ?_⟩
      rw [hI, take_snP ek, List.map_append]
      rfl
    · rintro acc _ c' h' ha hI ow
      rw [tDs_eq, List.length_map, List.take_length] at hI
      subst hI
      walk_at "go"
      refine w_join (ys := l.map fun p => mS p.pen) (by rw [List.map_map]; exact ow.atL 0 rfl) ?_ ?_
      · rw [List.map_map, List.length_map, t_gap, mS_len]
        have : (l.map (Str.length ∘ fun p => mS p.pen)) = l.map fun p => p.pen.length := List.map_congr_left fun d _ => mS_len _
        rw [this]
        simp
        omega
      rw [join_jb]
      refine w_addS (by rw [mS_len, mS_len]; simp; omega) ?_
      rw [mS_app]
      walk_at "go"
      refine w_addS (by rw [mS_len, mS_len]; simp; omega) ?_
      rw [mS_app]
      refine ⟨p1.trans ow.pre, ?_⟩
      rw [PT.pen, jn_jb]
      simp
  | n + 1, .mixed l, h, hp, hn, hs => by
    have n1 := neOne "mixed"
    have n2 := neTimes "mixed"
    have hok := oks_iff.mp (hp : PT.oks l)
    have hl := jb_len (hp : PT.oks l)
    have hsm := sum_pens hok
    rw [PT.sz] at hs
    rw [PT.dep] at hn
    have hpd := pdeps_le.mp (Nat.le_refl (PT.deps l))
    rw [PT.tD]
    unfold m_penned_48f09
    walk_at "fn"
    refine w_dictC ?_
    walk_at "go"
    refine w_dIx (v := .str (Str.ofString "M")) rfl get_new (by decide +kernel) ?_
    generalize hh1 : h ++ [MO.dK _] = h1
    have p1 : h <+: h1 := hh1 ▸ List.prefix_append _ _
    rw [t_M, t_open, t_shut]
    walk_at "go"
    rw [mS_app]
    refine ⟨isStrD_str _ _, ?_⟩
    walk_at "go"
    refine o_compS (σ := Unit) (fun _ => []) (fun k acc _ => acc = ((l.take k).map fun p => D.str (mS p.pen))) (s0 := ()) (Own.nil h1) rfl (by rw [tDs_eq, List.length_map]; have := plen_szs l; omega) (fun _ _ _ _ _ => rfl) ?_ ?_
    · rintro i d acc _ c' h' hd' ha hI ow
      rw [tDs_eq, List.getElem?_map, Option.map_eq_some_iff] at hd'
      obtain ⟨k, ek, rfl⟩ := hd'
      have hkm := List.mem_of_getElem? ek
      refine ⟨_, rfl, ?_⟩
      dsimp only [wipeD, List.set]
      walk_at "go"
      refine (k_pen n k h' (hok k hkm) (by have := hpd k hkm; omega) (by have := pszs_mem hkm; omega)).mono ?_
      rintro r h2 ⟨p2, rfl⟩
      refine ⟨(), ow.ext p2, ?_⟩
      rw [hI, take_snP ek, List.map_append]
      rfl
    · rintro acc _ c' h' ha hI ow
      rw [tDs_eq, List.length_map, List.take_length] at hI
      subst hI
      walk_at "go"
      refine w_join (ys := l.map fun p => mS p.pen) (by rw [List.map_map]; exact ow.atL 0 rfl) ?_ ?_
      · rw [List.map_map, List.length_map, t_gap, mS_len]
        have : (l.map (Str.length ∘ fun p => mS p.pen)) = l.map fun p => p.pen.length := List.map_congr_left fun d _ => mS_len _
        rw [this]
        simp
        omega
      rw [join_jb]
      refine w_addS (by rw [mS_len, mS_len]; simp; omega) ?_
      rw [mS_app]
      walk_at "go"
      refine w_addS (by rw [mS_len, mS_len]; simp; omega) ?_
      rw [mS_app]
      refine ⟨p1.trans ow.pre, ?_⟩
      rw [PT.pen, jn_jb]
      simp
/-! ### dicts of texts -/
theorem valD_put (kvs : List (Key × D)) (k j : Key) (y : D) : valD (putKD kvs k y) j = if j = k then some y else valD kvs j := by
  have pos : ∀ {p : Key × D} {r : List (Key × D)} {k : Key}, p.1 = k → valD (p :: r) k = some p.2 := fun e => by simp [valD, List.find?_cons, e]
  have neg : ∀ {p : Key × D} {r : List (Key × D)} {k : Key}, ¬ p.1 = k → valD (p :: r) k = valD r k := fun e => by simp [valD, List.find?_cons, e]
  unfold putKD
  split
  · rename_i hany
    induction kvs with
    | nil => simp at hany
    | cons p r ih =>
      rw [List.map_cons]
      by_cases e : p.1 = j
      · by_cases e2 : j = k
        · rw [if_pos (e.trans e2), if_pos e2]; exact pos e
        · rw [if_neg (fun z => e2 (e.symm.trans z)), if_neg e2, pos e, pos e]
      · have e3 : ((if p.1 = k then (p.1, y) else p) : Key × D).1 = p.1 := by split <;> rfl
        rw [neg (by rw [e3]; exact e), neg e]
        by_cases hr : (r.any fun kv => decide (kv.1 = k)) = true
        · exact ih hr
        · have hpk : p.1 = k := by
            rw [List.any_cons] at hany
            simp only [Bool.or_eq_true, decide_eq_true_eq] at hany
            rcases hany with z | z
            · exact z
            · exact absurd z hr
          have hid : (r.map fun kv => if kv.1 = k then (kv.1, y) else kv) = r := by
            have : ∀ a ∈ r, (if a.1 = k then (a.1, y) else a) = id a := fun a ha => by
              rw [if_neg (fun z => hr (List.any_eq_true.mpr ⟨a, ha, by simpa using z⟩))]
              rfl
            rw [List.map_congr_left this, List.map_id]
          rw [hid, if_neg (fun z => e (hpk.trans z.symm))]
  · rename_i hany
    induction kvs with
    | nil =>
      by_cases e : j = k
      · rw [if_pos e]; exact pos (p := (k, y)) e.symm
      · rw [if_neg e]; exact neg (p := (k, y)) (fun z => e z.symm)
    | cons p r ih =>
      rw [List.any_cons] at hany
      simp only [Bool.or_eq_true, decide_eq_true_eq, not_or] at hany
      rw [List.cons_append]
      by_cases e : p.1 = j
      · rw [pos e, pos e, if_neg (fun z => hany.1 (e.trans z))]
      · rw [neg e, neg e]; exact ih (by simpa using hany.2)
theorem putKD_len (kvs : List (Key × D)) (k : Key) (v : D) : (putKD kvs k v).length ≤ kvs.length + 1 := by
  unfold putKD
  split
  · rw [List.length_map]; omega
  · simp
/-! ### each once -/
theorem onceA_snoc : ∀ (l acc : List PT) (p : PT), onceA acc (l ++ [p]) = if p.pen ∈ (onceA acc l).map PT.pen then onceA acc l else onceA acc l ++ [p]
  | [], acc, p => by rw [List.nil_append, onceA, onceA, onceA]
  | q :: l, acc, p => by rw [List.cons_append, onceA, onceA_snoc l, onceA]
theorem onceA_len : ∀ (l acc : List PT), (onceA acc l).length ≤ acc.length + l.length
  | [], acc => by rw [onceA]; simp
  | p :: l, acc => by
    rw [onceA]
    rw [List.length_cons]
    split
    · have := onceA_len l acc; omega
    · have := onceA_len l (acc ++ [p]); rw [List.length_append, List.length_singleton] at this; omega
structure Fit (p : PT) : Prop where
  ok : p.ok
  dep : p.dep ≤ 18
  sz : p.sz ≤ 10000
theorem k_once {l : List PT} {es : List D} {h : MH} {i : Nat} (hl : getL h i = some es) (hp : Pats h l es) (hf : ∀ p ∈ l, Fit p) (hs : l.length ≤ 10000) :
    Sat (m_each_once_675d0 [.ref i] h) (fun y h' => ∃ j fs, y = .ref j ∧ Own h h' [(j, fs)] ∧ Pats h' (onceA [] l) fs) noX := by
  have hlen := hp.len
  walk_at "fn"
  refine c_dict0 (Cel.nil h) fun iD h1 c1 => ?_
  walk_at "go"
  refine c_new c1 (by simp) fun iL h2 c2 => ?_
  walk_at "go"
  refine w_iterL (pre_getL c2.pre hl) ?_
  dsimp only
  refine w_loop0 (fun k ρ h' => ∃ (kvs : List (Key × D)) (fs : List D) (o3 o4 : Option D), ρ = [some (.ref i), some (.ref iD), some (.ref iL), o3, o4] ∧ Cel h h' [(iL, .lst fs), (iD, .dK kvs)] ∧ Pats h (onceA [] (l.take k)) fs ∧
      (∀ x : List Nat, (valD kvs (.inr (mS x))).isSome = decide (x ∈ (onceA [] (l.take k)).map PT.pen)) ∧ kvs.length ≤ k) ⟨[], [], none, none, rfl, c2, rfl, fun x => by simp [onceA, valD], Nat.le_refl _⟩ (fun k ρ h' ⟨_, _, _, _, _, c, _⟩ => decide_eq_true (pre_getL c.pre hl)) ?_ ?_
  · rintro k d ρ h' hd ⟨kvs, fs, o3, o4, rfl, c, hp', hk, hkl⟩
    obtain ⟨p, ep, hpp⟩ := hp.get hd
    have hm := List.mem_of_getElem? ep
    have hfp := hf p hm
    have hkn : k < l.length := (List.getElem?_eq_some_iff.mp ep).1
    refine ⟨_, rfl, ?_⟩
    dsimp only [List.set]
    walk_at "go"
    refine (k_told 40 p d h' _ (hpp.mono c.pre) (by have := hfp.dep; omega) hfp.sz).mono ?_
    rintro y h3 ⟨p3, rfl⟩
    walk_at "go"
    refine (k_pen 100 p h3 hfp.ok (by have := hfp.dep; omega) hfp.sz).mono ?_
    rintro y h4 ⟨p4, rfl⟩
    have c4 := (c.ext p3).ext p4
    walk_at "go"
    refine w_dNotIn rfl (c4.at 1 rfl) ?_
    rw [hk]
    walk_at "go"
    have e9 := onceA_snoc (l.take k) [] p
    rw [← take_snP ep] at e9
    refine br_d (fun q => ?_) (fun q => ?_)
    · rw [if_pos q] at e9
      walk_at "go"
      refine ⟨kvs, fs, _, _, rfl, c4, by rw [e9]; exact hp', fun x => by rw [hk, e9], by omega⟩
    · rw [if_neg q] at e9
      walk_at "go"
      refine c_dSet rfl c4 1 rfl (by omega) fun h5 c5 => ?_
      walk_at "go"
      have hol : fs.length ≤ 10000 := by
        rw [hp'.len]
        have := onceA_len (l.take k) []
        rw [List.length_take] at this
        simp at this
        omega
      refine ⟨by rw [isListD_ref, c5.atL 0 rfl]; rfl, ?_⟩
      walk_at "go"
      refine c_app c5 0 rfl (by omega) fun h6 c6 => ?_
      refine ⟨_, _, _, _, rfl, c6, by rw [e9]; exact hp'.snoc hpp, fun x => ?_, by have := putKD_len kvs (.inr (mS p.pen)) (.bl true); omega⟩
      rw [valD_put, e9]
      by_cases z : x = p.pen
      · rw [z, if_pos rfl]; simp
      · rw [if_neg (fun y => z (mS_inj.mp (Sum.inr.inj y))), hk]; simp [z]
  · rintro ρ h' ⟨kvs, fs, o3, o4, rfl, c, hp', hk, hkl⟩
    rw [hlen, List.take_length] at hp'
    walk_at "go"
    exact ⟨iL, fs, rfl, ⟨c.pre, fun p hp => c.cell (p.1, .lst p.2) (by simp at hp; rw [hp]; simp) , by simp⟩, hp'.mono c.pre⟩
/-! ### the five functions -/
theorem o_extP {h0 h : MH} {L : LL} {Q : D → MH → Prop} {E : XE} {i j : Nat} {l m : List D} (o : Own h0 h L) (n : Nat) (e : L[n]? = some (i, l)) (g : h[j]? = some (.lst m)) (c : l.length + m.length ≤ 1000000) (q : ∀ h', Own h0 h' (L.set n (i, l ++ m)) → Q .non h') : Sat (dExtend (.ref i) [.ref j] h) Q E :=
  w_eq (by simp only [dExtend, o.at n e, g, if_pos c]) (q _ (o.setAt n e (l ++ m)))
theorem o_listTP {h0 h : MH} {L : LL} {l : List D} {Q : D → MH → Prop} {E : XE} (o : Own h0 h L) (q : ∀ i h', Own h0 h' ((i, l) :: L) → Q (.ref i) h') : Sat (dList [.tup l] h) Q E := w_eq (by simp [dList, seqOf]) (q _ _ (o.alloc _))
/-- a new pattern with parts -/
theorem n_parts {c : Str} {h : MH} {j : Nat} {ds : List D} (hc : c ∈ [Str.ofString "Chain", Str.ofString "Choice", Str.ofString "Mixed"]) (hl : getL h j = some ds) :
    Sat (m_Chain___init___9e3a3 [.ref h.length, .ref j] (h ++ [.ins c []])) (fun y h2 => y = .non ∧ h2 = h ++ [.ins c [(Str.ofString "parts", .tup ds)]]) noX := by
  have hl2 : getL (h ++ [.ins c []]) j = some ds := pre_getL (List.prefix_append _ _) hl
  walk_at "fn"
  refine w_setFldK get_new hc (by simp) ?_
  refine ⟨by trivial, ?_⟩
  rw [List.set_append_right _ _ (Nat.le_refl _)]
  simp [putFD]
theorem n_emp {h : MH} {ρ : Slots} : Sat (mNew (Str.ofString "Chain") (m_Chain___init___9e3a3) (mCons (mLst (mNil)) (mNil)) ρ h) (fun y h' => h <+: h' ∧ Pat h' (.chain []) y) noX := by
  walk_at "go"
  refine o_new (Own.nil h) (by simp) fun j h1 o1 => ?_
  walk_at "go"
  refine (n_parts (by simp) (o1.atL 0 rfl)).mono ?_
  rintro y h2 ⟨rfl, rfl⟩
  exact ⟨rfl, o1.pre.trans (List.prefix_append _ _), [], ⟨_, rfl, get_new⟩, rfl⟩
/-- what the class of a pattern is -/
def PT.cls : PT → Str
  | .one _ => Str.ofString "One"
  | .times _ _ _ => Str.ofString "Times"
  | .chain _ => Str.ofString "Chain"
  | .choice _ => Str.ofString "Choice"
  | .mixed _ => Str.ofString "Mixed"
theorem Pat.cell {h : MH} {p : PT} {d : D} (x : Pat h p d) : ∃ i fs, d = .ref i ∧ h[i]? = some (.ins p.cls fs) := by
  cases p with
  | one x' => obtain ⟨i, e1, e2⟩ := x; exact ⟨i, _, e1, e2⟩
  | times p lo hi => obtain ⟨i, e, e1, e2, e3⟩ := x; exact ⟨i, _, e1, e2⟩
  | chain l => obtain ⟨es, ⟨i, e1, e2⟩, _⟩ := x; exact ⟨i, _, e1, e2⟩
  | choice l => obtain ⟨es, ⟨i, e1, e2⟩, _⟩ := x; exact ⟨i, _, e1, e2⟩
  | mixed l => obtain ⟨es, ⟨i, e1, e2⟩, _⟩ := x; exact ⟨i, _, e1, e2⟩
theorem flat_take {α β : Type} {f : α → List β} {l : List α} {k : Nat} {x : α} (e : l[k]? = some x) : (l.take (k + 1)).flatMap f = (l.take k).flatMap f ++ f x := by
  rw [take_snP e, List.flatMap_append]; simp
theorem szs_flat {f : PT → List PT} (hf : ∀ p, PT.szs (f p) ≤ p.sz) : ∀ l : List PT, PT.szs (l.flatMap f) ≤ PT.szs l
  | [] => Nat.le_refl _
  | p :: l => by rw [List.flatMap_cons, pszs_app, PT.szs]; have := hf p; have := szs_flat hf l; omega
theorem opC_sz (p : PT) : PT.szs (opC p) ≤ p.sz := by
  cases p with
  | chain l => rw [opC, PT.sz]; omega
  | _ => show PT.szs [_] ≤ _; rw [PT.szs, PT.szs]; omega
theorem opO_sz (p : PT) : PT.szs (opO p) ≤ p.sz := by
  cases p with
  | choice l => rw [opO, PT.sz]; omega
  | _ => show PT.szs [_] ≤ _; rw [PT.szs, PT.szs]; omega
theorem opM_sz (p : PT) : PT.szs (opM p) ≤ p.sz := by
  cases p with
  | mixed l => rw [opM, PT.sz]; omega
  | _ =>
    unfold opM
    simp only
    split
    · rw [PT.szs]; omega
    · rw [PT.szs, PT.szs]; omega
theorem szs_takeP (l : List PT) (k : Nat) : PT.szs (l.take k) ≤ PT.szs l := by
  have := pszs_app (l.take k) (l.drop k)
  rw [List.take_append_drop] at this
  omega
theorem k_chain {l : List PT} {es : List D} {h : MH} {i : Nat} (hl : getL h i = some es) (hp : Pats h l es) (hs : PT.szs l ≤ 10000) :
    Sat (m_chain_974c3 [.ref i] h) (fun y h' => h <+: h' ∧ Pat h' (mkC l) y) noX := by
  have hlen := hp.len
  walk_at "fn"
  refine o_new (Own.nil h) (by simp) fun iL h2 c2 => ?_
  walk_at "go"
  refine w_loop0 (fun k ρ h' => ∃ (fs : List D) (o2 : Option D), ρ = [some (.ref i), some (.ref iL), o2] ∧ Own h h' [(iL, fs)] ∧ Pats h ((l.take k).flatMap opC) fs)
    ⟨[], none, rfl, c2, rfl⟩ (fun k ρ h' ⟨_, _, _, c, _⟩ => decide_eq_true (pre_getL c.pre hl)) ?_ ?_
  · rintro k d ρ h' hd ⟨fs, o2, rfl, c, hp'⟩
    obtain ⟨p, ep, hpp⟩ := hp.get hd
    obtain ⟨j, gs, rfl, ej⟩ := hpp.cell
    have ej' := pre_get c.pre ej
    have hfl : fs.length ≤ 10000 := by
      rw [hp'.len]
      have h1 := plen_szs ((l.take k).flatMap opC)
      have h2 := szs_flat opC_sz (l.take k)
      have h3 := szs_takeP l k
      omega
    refine ⟨_, rfl, ?_⟩
    dsimp only [List.set]
    cases p with
    | chain m =>
      obtain ⟨es', ⟨j', ee, ej2⟩, hm⟩ := hpp
      cases ee
      have ej3 := pre_get c.pre ej2
      clear ej' ej
      walk_at "go"
      refine o_listTP c fun iM h3 c3 => ?_
      walk_at "go"
      have hml : es'.length ≤ 10000 := by
        rw [hm.len]
        have h1 := plen_szs m
        have h2 := pszs_mem (List.mem_of_getElem? ep)
        rw [PT.sz] at h2
        omega
      refine o_extP c3 1 rfl (c3.at 0 rfl) (by omega) fun h4 c4 => ?_
      exact ⟨_, _, rfl, c4.sub (List.sublist_cons_self _ _), by rw [flat_take ep]; exact hp'.app hm⟩
    | _ =>
      simp only [PT.cls] at ej'
      walk_at "go"
      refine o_app c 0 rfl (by omega) fun h3 c3 => ?_
      exact ⟨_, _, rfl, c3, by rw [flat_take ep]; exact hp'.snoc hpp⟩
  · rintro ρ h' ⟨fs, o2, rfl, c, hp'⟩
    rw [hlen, List.take_length] at hp'
    walk_at "go"
    have hfl := hp'.len
    unfold mkC
    generalize l.flatMap opC = o at *
    refine br_d (fun q => ?_) (fun q => ?_)
    · match fs, q with
      | [d], _ =>
        match o, hfl with
        | [p], _ =>
          walk_at "go"
          obtain ⟨d', ds', e1, h1, h2⟩ := hp'
          cases e1
          exact ⟨c.pre, h1.mono c.pre⟩
    · walk_at "go"
      refine (n_parts (by simp) (c.atL 0 rfl)).mono ?_
      rintro y h3 ⟨rfl, rfl⟩
      have e9 : solo .chain o = .chain o := by
        unfold solo
        split
        · exact absurd (by rw [hfl]; rfl) q
        · rfl
      rw [e9]
      have pr := c.pre.trans (List.prefix_append h' [MO.ins (Str.ofString "Chain") [(Str.ofString "parts", D.tup fs)]])
      exact ⟨rfl, pr, fs, ⟨_, rfl, get_new⟩, hp'.mono pr⟩
end Mi

namespace Mi
open PySem L2
local macro_rules | `(tactic| walk_at "gl") => `(tactic| first
  | assumption
  | (refine Own.atL (h0 := ?_) (L := ?_) ?_ 0 ?_; rotate_left; rotate_left; assumption; rfl)
  | (refine Own.atL (h0 := ?_) (L := ?_) ?_ 1 ?_; rotate_left; rotate_left; assumption; rfl)
  | (refine Own.atL (h0 := ?_) (L := ?_) ?_ 2 ?_; rotate_left; rotate_left; assumption; rfl)
  | (refine Own.atL (h0 := ?_) (L := ?_) ?_ 3 ?_; rotate_left; rotate_left; assumption; rfl)
  | (refine Own.atL (h0 := ?_) (L := ?_) ?_ 4 ?_; rotate_left; rotate_left; assumption; rfl)
  | (refine Own.atL (h0 := ?_) (L := ?_) ?_ 5 ?_; rotate_left; rotate_left; assumption; rfl)
  | (refine Own.atL (h0 := ?_) (L := ?_) ?_ 6 ?_; rotate_left; rotate_left; assumption; rfl)
  | (refine Own.atL (h0 := ?_) (L := ?_) ?_ 7 ?_; rotate_left; rotate_left; assumption; rfl)
  | (refine Own.atL (h0 := ?_) (L := ?_) ?_ 8 ?_; rotate_left; rotate_left; assumption; rfl)
  | (refine Own.atL (h0 := ?_) (L := ?_) ?_ 9 ?_; rotate_left; rotate_left; assumption; rfl)
  | (refine Own.getL (h0 := ?_) (L := ?_) ?_ ?_; rotate_left; rotate_left; assumption; assumption))
local macro_rules | `(tactic| walk_at "il") => `(tactic| first
  | (refine Own.isL (h0 := ?_) (L := ?_) (l := ?_) ?_ 0 ?_; rotate_left; rotate_left; rotate_left; assumption; rfl)
  | (refine Own.isL (h0 := ?_) (L := ?_) (l := ?_) ?_ 1 ?_; rotate_left; rotate_left; rotate_left; assumption; rfl)
  | (refine Own.isL (h0 := ?_) (L := ?_) (l := ?_) ?_ 2 ?_; rotate_left; rotate_left; rotate_left; assumption; rfl)
  | (refine Own.isL (h0 := ?_) (L := ?_) (l := ?_) ?_ 3 ?_; rotate_left; rotate_left; rotate_left; assumption; rfl)
  | (refine Own.isL (h0 := ?_) (L := ?_) (l := ?_) ?_ 4 ?_; rotate_left; rotate_left; rotate_left; assumption; rfl)
  | (refine Own.isL (h0 := ?_) (L := ?_) (l := ?_) ?_ 5 ?_; rotate_left; rotate_left; rotate_left; assumption; rfl)
  | (refine Own.isL (h0 := ?_) (L := ?_) (l := ?_) ?_ 6 ?_; rotate_left; rotate_left; rotate_left; assumption; rfl)
  | (refine Own.isL (h0 := ?_) (L := ?_) (l := ?_) ?_ 7 ?_; rotate_left; rotate_left; rotate_left; assumption; rfl)
  | (refine Own.isL (h0 := ?_) (L := ?_) (l := ?_) ?_ 8 ?_; rotate_left; rotate_left; rotate_left; assumption; rfl)
  | (refine Own.isL (h0 := ?_) (L := ?_) (l := ?_) ?_ 9 ?_; rotate_left; rotate_left; rotate_left; assumption; rfl))
local macro_rules | `(tactic| walk_at "bd") => `(tactic| first | assumption | omega | (simp; done) | (simp; omega) | (simp [*]; done) | (simp [*]; omega))
local macro_rules | `(tactic| walk_at "w") => `(tactic| first
  | with_reducible refine w_seq ?_
  | with_reducible refine w_asg ?_
  | with_reducible refine w_cons ?_
  | with_reducible refine w_nil ?_
  | with_reducible refine w_c ?_
  | ((with_reducible refine w_var (d := ?_) ?_ ?_); rotate_left; rfl)
  | with_reducible refine w_bin ?_
  | with_reducible refine w_call ?_
  | with_reducible refine w_if ?_
  | with_reducible refine w_B ?_
  | with_reducible refine w_unB ?_
  | with_reducible refine w_ret ?_
  | with_reducible refine w_drop ?_
  | with_reducible refine w_skip ?_
  | with_reducible refine w_eq (dAdd_int _ _ _) ?_
  | with_reducible refine w_eq (dSub_int _ _ _) ?_
  | with_reducible refine w_eq (dEq_int _ _ _) ?_
  | with_reducible refine w_eq (dEq_str _ _ _) ?_
  | with_reducible refine w_eq (dNe_strs _ _ _) ?_
  | with_reducible refine w_eq (dEq_bls _ _ _) ?_
  | with_reducible refine w_eq (dNe_bls _ _ _) ?_
  | with_reducible refine w_eq (dLt_int _ _ _) ?_
  | with_reducible refine w_eq (dLe_int _ _ _) ?_
  | with_reducible refine w_eq (dGt_int _ _ _) ?_
  | with_reducible refine w_eq (dGe_int _ _ _) ?_
  | with_reducible refine w_eq (dNe_int _ _ _) ?_
  | ((with_reducible refine w_mod ?_ ?_); (first | assumption | decide | omega))
  | ((with_reducible refine w_fdiv ?_ ?_); (first | assumption | decide | omega))
  | ((with_reducible refine w_mulS ?_ ?_); (first | decide | omega))
  | ((with_reducible refine w_addS ?_ ?_); (first | assumption | decide | omega))
  | ((with_reducible refine w_lenS ?_ ?_); (first | assumption | decide | omega))
  | ((with_reducible refine w_slS ?_ ?_); (first | assumption | decide | omega))
  | with_reducible refine w_lenTm ?_
  | with_reducible refine w_eq (dLen_tup _ _) ?_
  | with_reducible refine w_eq (dSl_tup _ _ _ _) ?_
  | with_reducible refine w_eq (dMax_ev _ _ _) ?_
  | with_reducible refine w_eq (dMin_ev _ _ _) ?_
  | with_reducible refine w_eq (dAbs_ev _ _) ?_
  | with_reducible refine w_not ?_
  | with_reducible refine w_and ?_
  | with_reducible refine w_or ?_
  | with_reducible refine br_n ?_
  | with_reducible refine br_tt ?_
  | with_reducible refine br_ff ?_
  | ((with_reducible refine br_dt ?_ ?_); (first | assumption | omega | rfl))
  | ((with_reducible refine br_df ?_ ?_); (first | assumption | omega))
  | with_reducible refine w_tup ?_
  | ((with_reducible refine w_toTup ?_ ?_); exact (by simp))
  | with_reducible refine w_lst ?_
  | with_reducible refine w_lc ?_
  | with_reducible refine w_for ?_
  | with_reducible refine w_range1 ?_
  | with_reducible refine w_range2 ?_
  | ((with_reducible refine w_dR1 ?_ ?_); (first | decide | omega))
  | ((with_reducible refine w_dR2 ?_ ?_); (first | decide | omega))
  | with_reducible refine w_iter ?_
  | with_reducible refine w_eq (iter1_tup _ _) ?_
  | with_reducible refine w_eq (iter1_str _ _) ?_
  | with_reducible refine w_sl ?_
  | with_reducible refine w_no ?_
  | with_reducible refine w_some ?_
  | with_reducible refine w_unI ?_
  | with_reducible refine w_meth ?_
  | with_reducible refine w_isi ?_
  | with_reducible refine w_zip ?_
  | with_reducible refine w_ifE ?_
  | with_reducible refine w_andV ?_
  | with_reducible refine w_orV ?_
  | with_reducible refine w_notV ?_
  | with_reducible refine w_andK ?_
  | with_reducible refine w_orK ?_
  | with_reducible refine w_notK ?_
  | with_reducible refine w_revL ?_
  | with_reducible refine w_listRg1 ?_
  | with_reducible refine w_tindex ?_
  | with_reducible refine w_setIx ?_
  | with_reducible refine w_un ?_
  | with_reducible refine w_rev1 ?_
  | with_reducible refine w_rev2 ?_
  | with_reducible refine w_chain ?_
  | with_reducible refine w_chK ?_
  | with_reducible refine w_retN ?_
  | with_reducible refine w_brk ?_
  | with_reducible refine w_cont ?_
  | with_reducible refine w_asgT ?_
  | with_reducible refine w_eq (isi_str_str _ _) ?_
  | with_reducible refine w_eq (isi_int_int _ _) ?_
  | with_reducible refine w_eq (isi_tup_tup _ _) ?_
  | with_reducible refine w_eq (isi_bool_int _ _) ?_
  | with_reducible refine w_eq (isi_str_int _ _) ?_
  | ((with_reducible refine w_lenLm (α := ?_) (f := ?_) (l := ?_) ?_ ?_); rotate_left; rotate_left; rotate_left; walk_at "gl")
  | ((with_reducible refine w_lenL (l := ?_) ?_ ?_); rotate_left; walk_at "gl")
  | ((with_reducible refine w_iterL (l := ?_) ?_ ?_); rotate_left; walk_at "gl"; dsimp only)
  | ((with_reducible refine w_tupL (l := ?_) ?_ ?_); rotate_left; walk_at "gl")
  | ((with_reducible refine w_ixT (d := ?_) ?_ ?_); rotate_left; (first | with_reducible assumption | rfl))
  | ((with_reducible refine w_ixL (l := ?_) (d := ?_) ?_ ?_ ?_); rotate_left; rotate_left; walk_at "gl"; (first | with_reducible assumption | rfl))
  | ((with_reducible refine w_addT ?_ ?_); walk_at "bd")
  | ((with_reducible refine ⟨?_, ?_⟩); (with_reducible (show isListD (.ref _) _ = true)); walk_at "il")
  | with_reducible refine w_tryK ?_
  | with_reducible refine w_raise ?_
  | with_reducible refine w_raise0 ?_
  | with_reducible refine w_isX ?_
  | ((with_reducible refine w_isXK (k := ?_) ?_ ?_); rotate_left; (first | with_reducible exact lkA | (apply lkB; decide +kernel; exact lkA) | (apply lkB; decide +kernel; apply lkB; decide +kernel; exact lkA) | (apply lkB; decide +kernel; apply lkB; decide +kernel; apply lkB; decide +kernel; exact lkA)))
  | with_reducible refine w_xf ?_
  | ((with_reducible refine w_xfK ?_ ?_ ?_); (exact List.mem_cons_self); (decide))
  | with_reducible refine w_eq (isN_xo _) ?_
  | with_reducible refine w_eq (dNeg_int _ _) ?_)
local macro_rules | `(tactic| walk_at "go") => `(tactic| (repeat (walk_at "w")); try dsimp only [List.set])
local macro_rules | `(tactic| walk_at "fn") => `(tactic| ((refine w_fun ?_); simp only [startD, List.map_cons, List.map_nil, List.reduceReplicate, Nat.reduceSub, List.cons_append, List.nil_append]; walk_at "go"))
local macro_rules | `(tactic| walk_at "lk") => `(tactic| first | with_reducible exact lkA | (apply lkB; decide +kernel; walk_at "lk"))
local macro_rules | `(tactic| walk_at "mk") => `(tactic| first | with_reducible exact mkA | (apply mkB; decide +kernel; walk_at "mk"))
local macro_rules | `(tactic| walk_at "fk") => `(tactic| first | with_reducible exact fkA | exact fkN | (apply fkB; decide +kernel; walk_at "fk"))
local macro_rules | `(tactic| walk_at "cs") => `(tactic| first | exact List.mem_cons_self | (apply List.mem_cons_of_mem; walk_at "cs"))
local macro_rules | `(tactic| walk_at "w") => `(tactic| first
  | with_reducible refine w_fld ?_
  | ((with_reducible refine w_fldK (c := ?_) (fs := ?_) (v := ?_) ?_ ?_ ?_ ?_); rotate_left; rotate_left; rotate_left; (with_reducible assumption); (walk_at "cs"); (walk_at "fk"))
  | with_reducible refine w_setFld ?_
  | with_reducible refine w_new ?_
  | with_reducible refine w_methI ?_
  | ((with_reducible refine w_methK (c := ?_) (fs := ?_) (F := ?_) ?_ ?_ ?_ ?_); rotate_left; rotate_left; rotate_left; (with_reducible assumption); (walk_at "mk"); (walk_at "fk"))
  | with_reducible refine w_isC ?_
  | ((with_reducible refine w_isCK (c := ?_) (fs := ?_) (k := ?_) ?_ ?_ ?_); rotate_left; rotate_left; rotate_left; (with_reducible assumption); (walk_at "lk"))
  | with_reducible refine w_callD ?_
  | with_reducible refine w_mDSet ?_
  | with_reducible refine w_eq (nN_non _) ?_
  | with_reducible refine w_eq (nN_int _ _) ?_
  | with_reducible refine w_eq (nN_tup _ _) ?_
  | with_reducible refine w_eq (nN_ref _ _) ?_
  | with_reducible refine w_eq (iN_non _) ?_
  | with_reducible refine w_eq (iN_int _ _) ?_
  | with_reducible refine w_eq (iN_tup _ _) ?_
  | with_reducible refine w_eq (iN_ref _ _) ?_)
theorem opO_fit {p : PT} (h : Fit p) : ∀ q ∈ opO p, Fit q := by
  cases p with
  | choice l =>
    intro q hq
    have h1 := oks_iff.mp (h.ok : PT.oks l) q hq
    have h2 := pdeps_le.mp (Nat.le_refl (PT.deps l)) q hq
    have h3 := pszs_mem (l := l) hq
    have h4 := h.dep
    have h5 := h.sz
    rw [PT.dep] at h4
    rw [PT.sz] at h5
    exact ⟨h1, by omega, by omega⟩
  | _ => intro q hq; rw [List.mem_singleton.mp hq]; exact h
theorem k_choice {l : List PT} {es : List D} {h : MH} {i : Nat} (hl : getL h i = some es) (hp : Pats h l es) (hf : ∀ p ∈ l, Fit p) (hs : PT.szs l ≤ 10000) :
    Sat (m_choice_458e9 [.ref i] h) (fun y h' => h <+: h' ∧ Pat h' (mkO l) y) noX := by
  have hlen := hp.len
  walk_at "fn"
  refine o_new (Own.nil h) (by simp) fun iL h2 c2 => ?_
  walk_at "go"
  refine w_loop0 (fun k ρ h' => ∃ (fs : List D) (o2 : Option D), ρ = [some (.ref i), some (.ref iL), o2] ∧ Own h h' [(iL, fs)] ∧ Pats h ((l.take k).flatMap opO) fs)
    ⟨[], none, rfl, c2, rfl⟩ (fun k ρ h' ⟨_, _, _, c, _⟩ => decide_eq_true (pre_getL c.pre hl)) ?_ ?_
  · rintro k d ρ h' hd ⟨fs, o2, rfl, c, hp'⟩
    obtain ⟨p, ep, hpp⟩ := hp.get hd
    obtain ⟨j, gs, rfl, ej⟩ := hpp.cell
    have ej' := pre_get c.pre ej
    have hfl : fs.length ≤ 10000 := by
      rw [hp'.len]
      have h1 := plen_szs ((l.take k).flatMap opO)
      have h2 := szs_flat opO_sz (l.take k)
      have h3 := szs_takeP l k
      omega
    refine ⟨_, rfl, ?_⟩
    dsimp only [List.set]
    cases p with
    | choice m =>
      obtain ⟨es', ⟨j', ee, ej2⟩, hm⟩ := hpp
      cases ee
      have ej3 := pre_get c.pre ej2
      clear ej' ej
      walk_at "go"
      refine o_listTP c fun iM h3 c3 => ?_
      walk_at "go"
      have hml : es'.length ≤ 10000 := by
        rw [hm.len]
        have h1 := plen_szs m
        have h2 := pszs_mem (List.mem_of_getElem? ep)
        rw [PT.sz] at h2
        omega
      refine o_extP c3 1 rfl (c3.at 0 rfl) (by omega) fun h4 c4 => ?_
      exact ⟨_, _, rfl, c4.sub (List.sublist_cons_self _ _), by rw [flat_take ep]; exact hp'.app hm⟩
    | _ =>
      simp only [PT.cls] at ej'
      walk_at "go"
      refine o_app c 0 rfl (by omega) fun h3 c3 => ?_
      exact ⟨_, _, rfl, c3, by rw [flat_take ep]; exact hp'.snoc hpp⟩
  · rintro ρ h' ⟨fs, o2, rfl, c, hp'⟩
    rw [hlen, List.take_length] at hp'
    walk_at "go"
    have hfl := hp'.len
    have hfit : ∀ q ∈ l.flatMap opO, Fit q := fun q hq => by
      obtain ⟨p, hp, hq⟩ := List.mem_flatMap.mp hq
      exact opO_fit (hf p hp) q hq
    have hz := szs_flat opO_sz l
    refine (k_once (c.atL 0 rfl) (hp'.mono c.pre) hfit (by have := plen_szs (l.flatMap opO); omega)).mono ?_
    rintro y h3 ⟨j, gs, rfl, o3, hp3⟩
    have hgl := hp3.len
    unfold mkO
    generalize onceA [] (l.flatMap opO) = o at *
    have pr3 := c.pre.trans o3.pre
    walk_at "go"
    refine br_d (fun q => ?_) (fun q => ?_)
    · match gs, q with
      | [d], _ =>
        match o, hgl with
        | [p], _ =>
          walk_at "go"
          obtain ⟨d', ds', e1, h1, h2⟩ := hp3
          cases e1
          exact ⟨pr3, h1⟩
    · walk_at "go"
      show Sat (m_Chain___init___9e3a3 _ _) _ _
      refine (n_parts (by simp) (o3.atL 0 rfl)).mono ?_
      rintro y h4 ⟨rfl, rfl⟩
      have e9 : solo .choice o = .choice o := by
        unfold solo
        split
        · exact absurd (by rw [hgl]; rfl) q
        · rfl
      rw [e9]
      have pr := List.prefix_append h3 [MO.ins (Str.ofString "Choice") [(Str.ofString "parts", D.tup gs)]]
      exact ⟨rfl, pr3.trans pr, gs, ⟨_, rfl, get_new⟩, hp3.mono pr⟩
theorem n_emp' {h0 h : MH} {ρ : Slots} {X : PT} (p0 : h0 <+: h) (eX : X = .chain []) : Sat (toLst [] h) (fun x h1 => Sat (mNil ρ h1) (fun xs h2 => Sat (m_Chain___init___9e3a3 (.ref h2.length :: x :: xs) (h2 ++ [.ins (Str.ofString "Chain") []])) (fun y h3 => y = .non ∧ h0 <+: h3 ∧ Pat h3 X (.ref h2.length)) noX) noX) noX := by
  refine o_new (Own.nil h) (by simp) fun j h1 o1 => ?_
  walk_at "go"
  refine (n_parts (by simp) (o1.atL 0 rfl)).mono ?_
  rintro y h2 ⟨rfl, rfl⟩
  rw [eX]
  exact ⟨rfl, (p0.trans o1.pre).trans (List.prefix_append _ _), [], ⟨_, rfl, get_new⟩, rfl⟩
theorem k_isE {p : PT} {d : D} {h : MH} (hp : Pat h p d) : Sat (m_is_empty_d2ea2 [d] h) (fun y h' => h' = h ∧ y = .bl (isE p)) noX := by
  cases p with
  | chain l =>
    obtain ⟨es, ⟨i, rfl, e⟩, hm⟩ := hp
    have hlen := hm.len
    walk_at "fn"
    refine ⟨rfl, ?_⟩
    cases l with
    | nil => rw [show es = [] from hm]; rfl
    | cons p l => rw [hlen]; simp [isE]; omega
  | _ =>
    obtain ⟨j, gs, rfl, ej⟩ := hp.cell
    simp only [PT.cls] at ej
    walk_at "fn"
    exact ⟨rfl, rfl⟩
theorem k_mixed {l : List PT} {es : List D} {h : MH} {i : Nat} (hl : getL h i = some es) (hp : Pats h l es) (hs : PT.szs l ≤ 10000) :
    Sat (m_mixed_cabfe [.ref i] h) (fun y h' => h <+: h' ∧ Pat h' (mkM l) y) noX := by
  have hlen := hp.len
  walk_at "fn"
  refine o_new (Own.nil h) (by simp) fun iL h2 c2 => ?_
  walk_at "go"
  refine w_loop0 (fun k ρ h' => ∃ (fs : List D) (o2 : Option D), ρ = [some (.ref i), some (.ref iL), o2] ∧ Own h h' [(iL, fs)] ∧ Pats h ((l.take k).flatMap opM) fs)
    ⟨[], none, rfl, c2, rfl⟩ (fun k ρ h' ⟨_, _, _, c, _⟩ => decide_eq_true (pre_getL c.pre hl)) ?_ ?_
  · rintro k d ρ h' hd ⟨fs, o2, rfl, c, hp'⟩
    obtain ⟨p, ep, hpp⟩ := hp.get hd
    obtain ⟨j, gs, rfl, ej⟩ := hpp.cell
    have ej' := pre_get c.pre ej
    have hfl : fs.length ≤ 10000 := by
      rw [hp'.len]
      have h1 := plen_szs ((l.take k).flatMap opM)
      have h2 := szs_flat opM_sz (l.take k)
      have h3 := szs_takeP l k
      omega
    refine ⟨_, rfl, ?_⟩
    dsimp only [List.set]
    have hq := hpp.mono c.pre
    cases p with
    | mixed m =>
      obtain ⟨es', ⟨j', ee, ej2⟩, hm⟩ := hpp
      cases ee
      have ej3 := pre_get c.pre ej2
      clear ej' ej
      walk_at "go"
      refine o_listTP c fun iM h3 c3 => ?_
      walk_at "go"
      have hml : es'.length ≤ 10000 := by
        rw [hm.len]
        have h1 := plen_szs m
        have h2 := pszs_mem (List.mem_of_getElem? ep)
        rw [PT.sz] at h2
        omega
      refine o_extP c3 1 rfl (c3.at 0 rfl) (by omega) fun h4 c4 => ?_
      exact ⟨_, _, rfl, c4.sub (List.sublist_cons_self _ _), by rw [flat_take ep]; exact hp'.app hm⟩
    | _ =>
      simp only [PT.cls] at ej'
      walk_at "go"
      refine (k_isE hq).mono ?_
      rintro y h3 ⟨rfl, rfl⟩
      walk_at "go"
      refine br (fun z => ?_) (fun z => ?_)
      · walk_at "go"
        refine ⟨_, _, rfl, c, ?_⟩
        rw [flat_take ep]
        unfold opM
        simp only [z, if_true, List.append_nil]
        exact hp'
      · walk_at "go"
        refine o_app c 0 rfl (by omega) fun h4 c4 => ?_
        refine ⟨_, _, rfl, c4, ?_⟩
        rw [flat_take ep]
        unfold opM
        simp only [z, if_false]
        exact hp'.snoc hpp
  · rintro ρ h' ⟨fs, o2, rfl, c, hp'⟩
    rw [hlen, List.take_length] at hp'
    walk_at "go"
    have hfl := hp'.len
    unfold mkM
    generalize l.flatMap opM = o at *
    refine br_d (fun q => ?_) (fun q => ?_)
    · have e1 : o = [] := by
        have : o.length = 0 := by rw [← hfl]; omega
        exact List.length_eq_zero_iff.mp this
      rw [e1]
      walk_at "go"
      exact n_emp' c.pre rfl
    walk_at "go"
    refine br_d (fun q => ?_) (fun q' => ?_)
    · match fs, q with
      | [d], _ =>
        match o, hfl with
        | [p], _ =>
          walk_at "go"
          obtain ⟨d', ds', e1, h1, h2⟩ := hp'
          cases e1
          exact ⟨c.pre, h1.mono c.pre⟩
    · walk_at "go"
      show Sat (m_Chain___init___9e3a3 _ _) _ _
      refine (n_parts (by simp) (c.atL 0 rfl)).mono ?_
      rintro y h3 ⟨rfl, rfl⟩
      have e9 : solo mixN o = .mixed o := by
        unfold solo
        split
        · exact absurd (by rw [hfl]; rfl) q'
        · unfold mixN
          split
          · exact absurd (by rw [hfl]; rfl) q
          · rfl
      rw [e9]
      have pr := c.pre.trans (List.prefix_append h' [MO.ins (Str.ofString "Mixed") [(Str.ofString "parts", D.tup fs)]])
      exact ⟨rfl, pr, fs, ⟨_, rfl, get_new⟩, hp'.mono pr⟩
theorem k_one {x : Str} {h : MH} : Sat (m_one_dbedc [.str x] h) (fun y h' => h <+: h' ∧ Pat h' (.one x) y) noX := by
  walk_at "fn"
  refine Sat.mono (Q := fun y h2 => y = .non ∧ h2 = h ++ [.ins (Str.ofString "One") [(Str.ofString "form", .str x)]]) ?_ ?_
  · walk_at "fn"
    refine w_setFldK get_new (by simp) (by simp) ?_
    refine ⟨by trivial, ?_⟩
    rw [List.set_append_right _ _ (Nat.le_refl _)]
    simp [putFD]
  · rintro y h2 ⟨rfl, rfl⟩
    exact ⟨rfl, List.prefix_append _ _, _, rfl, get_new⟩
theorem set_new {h : MH} {x y : MO} : (h ++ [x]).set h.length y = h ++ [y] := by
  rw [List.set_append_right _ _ (Nat.le_refl _)]
  simp
theorem dEq_no (k : Int) (h : MH) : dEq .non (.int k) h = .ok (.bl false) h := dEq_of (by unfold eqD; simp [scalD])
/-- times, its counts right -/
theorem k_times {p : PT} {d : D} {lo : Int} {hi : Option Int} {h : MH} (hp : Pat h p d) (hlo : 0 ≤ lo ∧ lo ≤ 9) (hhi : ∀ k, hi = some k → lo ≤ k ∧ k ≤ 9) :
    Sat (m_times_2f53e [d, .int lo, hiD hi] h) (fun y h' => h <+: h' ∧ Pat h' (mkT p lo hi) y) noX := by
  have init : ∀ hd : D, Sat (m_Times___init___6a51e [.ref h.length, d, .int lo, hd] (h ++ [.ins (Str.ofString "Times") []])) (fun y h2 => y = .non ∧ h2 = h ++ [.ins (Str.ofString "Times") [(Str.ofString "part", d), (Str.ofString "low", .int lo), (Str.ofString "high", hd)]]) noX := fun hd => by
    walk_at "fn"
    refine w_setFldK get_new (by simp) (by simp) ?_
    rw [set_new]
    walk_at "go"
    refine w_setFldK get_new (by simp) (by simp [putFD]) ?_
    rw [set_new]
    walk_at "go"
    refine w_setFldK get_new (by simp) (by simp [putFD]; split <;> simp) ?_
    rw [set_new]
    refine ⟨by trivial, ?_⟩
    have e1 : ¬ Str.ofString "part" = Str.ofString "low" := by decide +kernel
    have e2 : ¬ Str.ofString "part" = Str.ofString "high" := by decide +kernel
    have e3 : ¬ Str.ofString "low" = Str.ofString "high" := by decide +kernel
    simp [putFD, e1, e2, e3]
  have fin : ∀ (hi : Option Int) (X : PT), X = .times p lo hi → Sat (m_Times___init___6a51e [.ref h.length, d, .int lo, hiD hi] (h ++ [.ins (Str.ofString "Times") []])) (fun y h2 => y = .non ∧ h <+: h2 ∧ Pat h2 X (.ref h.length)) noX := fun hi X eX => by
    refine (init (hiD hi)).mono ?_
    rintro y h2 ⟨rfl, rfl⟩
    rw [eX]
    exact ⟨rfl, List.prefix_append _ _, _, _, rfl, get_new, hp.mono (List.prefix_append _ _)⟩
  cases hi with
  | none =>
    unfold hiD
    walk_at "fn"
    refine w_eq (dEq_no _ _) ?_
    walk_at "go"
    refine (k_isE hp).mono ?_
    rintro y h3 ⟨rfl, rfl⟩
    walk_at "go"
    refine br (fun z => ?_) (fun z => ?_)
    · walk_at "go"
      exact n_emp' List.prefix_rfl (by unfold mkT; rw [if_pos (.inr z)])
    walk_at "go"
    have key := fin none (mkT p lo none) (by
      unfold mkT
      rw [if_neg (by simp [z]), if_neg (by simp)])
    refine br_d (fun q => ?_) (fun q => ?_)
    · walk_at "go"
      refine w_eq (dEq_no _ _) ?_
      walk_at "go"
      exact key
    · walk_at "go"
      exact key
  | some k =>
    have hk := hhi k rfl
    unfold hiD
    walk_at "fn"
    have hstep : Br (isE p = true ∨ k = 0) (mkT p lo (some k) = .chain []) (Br (lo = 1 ∧ k = 1) (mkT p lo (some k) = p) (mkT p lo (some k) = .times p lo (some k))) := by
      refine br (fun z => ?_) (fun z => br (fun z2 => ?_) (fun z2 => ?_))
      · unfold mkT; rw [if_pos (by rcases z with z | z; exact .inr z; exact .inl (by rw [z]))]
      · unfold mkT; rw [if_neg (by simp; simp at z; exact ⟨z.2, z.1⟩), if_pos (by rw [z2.2]; exact ⟨z2.1, rfl⟩)]
      · unfold mkT; rw [if_neg (by simp; simp at z; exact ⟨z.2, z.1⟩), if_neg (by simpa using z2)]
    refine br_d (fun q => ?_) (fun q => ?_)
    · walk_at "go"
      exact n_emp' List.prefix_rfl (hstep.1 (.inr q))
    walk_at "go"
    refine (k_isE hp).mono ?_
    rintro y h3 ⟨rfl, rfl⟩
    walk_at "go"
    refine br (fun z => ?_) (fun z => ?_)
    · walk_at "go"
      exact n_emp' List.prefix_rfl (hstep.1 (.inl z))
    have hs2 := hstep.2 (by simp [z, q])
    walk_at "go"
    refine br_d (fun q1 => ?_) (fun q1 => ?_)
    · walk_at "go"
      refine br_d (fun q2 => ?_) (fun q2 => ?_)
      · walk_at "go"
        exact ⟨List.prefix_rfl, by rw [hs2.1 ⟨q1, q2⟩]; exact hp⟩
      · walk_at "go"
        exact fin (some k) _ (hs2.2 (fun z => q2 z.2))
    · walk_at "go"
      exact fin (some k) _ (hs2.2 (fun z => q1 z.1))
end Mi

namespace Mi
open PySem L2
local macro_rules | `(tactic| walk_at "gl") => `(tactic| first
  | assumption
  | (refine Own.atL (h0 := ?_) (L := ?_) ?_ 0 ?_; rotate_left; rotate_left; assumption; rfl)
  | (refine Own.atL (h0 := ?_) (L := ?_) ?_ 1 ?_; rotate_left; rotate_left; assumption; rfl)
  | (refine Own.atL (h0 := ?_) (L := ?_) ?_ 2 ?_; rotate_left; rotate_left; assumption; rfl)
  | (refine Own.atL (h0 := ?_) (L := ?_) ?_ 3 ?_; rotate_left; rotate_left; assumption; rfl)
  | (refine Own.atL (h0 := ?_) (L := ?_) ?_ 4 ?_; rotate_left; rotate_left; assumption; rfl)
  | (refine Own.atL (h0 := ?_) (L := ?_) ?_ 5 ?_; rotate_left; rotate_left; assumption; rfl)
  | (refine Own.atL (h0 := ?_) (L := ?_) ?_ 6 ?_; rotate_left; rotate_left; assumption; rfl)
  | (refine Own.atL (h0 := ?_) (L := ?_) ?_ 7 ?_; rotate_left; rotate_left; assumption; rfl)
  | (refine Own.atL (h0 := ?_) (L := ?_) ?_ 8 ?_; rotate_left; rotate_left; assumption; rfl)
  | (refine Own.atL (h0 := ?_) (L := ?_) ?_ 9 ?_; rotate_left; rotate_left; assumption; rfl)
  | (refine Own.getL (h0 := ?_) (L := ?_) ?_ ?_; rotate_left; rotate_left; assumption; assumption))
local macro_rules | `(tactic| walk_at "il") => `(tactic| first
  | (refine Own.isL (h0 := ?_) (L := ?_) (l := ?_) ?_ 0 ?_; rotate_left; rotate_left; rotate_left; assumption; rfl)
  | (refine Own.isL (h0 := ?_) (L := ?_) (l := ?_) ?_ 1 ?_; rotate_left; rotate_left; rotate_left; assumption; rfl)
  | (refine Own.isL (h0 := ?_) (L := ?_) (l := ?_) ?_ 2 ?_; rotate_left; rotate_left; rotate_left; assumption; rfl)
  | (refine Own.isL (h0 := ?_) (L := ?_) (l := ?_) ?_ 3 ?_; rotate_left; rotate_left; rotate_left; assumption; rfl)
  | (refine Own.isL (h0 := ?_) (L := ?_) (l := ?_) ?_ 4 ?_; rotate_left; rotate_left; rotate_left; assumption; rfl)
  | (refine Own.isL (h0 := ?_) (L := ?_) (l := ?_) ?_ 5 ?_; rotate_left; rotate_left; rotate_left; assumption; rfl)
  | (refine Own.isL (h0 := ?_) (L := ?_) (l := ?_) ?_ 6 ?_; rotate_left; rotate_left; rotate_left; assumption; rfl)
  | (refine Own.isL (h0 := ?_) (L := ?_) (l := ?_) ?_ 7 ?_; rotate_left; rotate_left; rotate_left; assumption; rfl)
  | (refine Own.isL (h0 := ?_) (L := ?_) (l := ?_) ?_ 8 ?_; rotate_left; rotate_left; rotate_left; assumption; rfl)
  | (refine Own.isL (h0 := ?_) (L := ?_) (l := ?_) ?_ 9 ?_; rotate_left; rotate_left; rotate_left; assumption; rfl))
local macro_rules | `(tactic| walk_at "bd") => `(tactic| first | assumption | omega | (simp; done) | (simp; omega) | (simp [*]; done) | (simp [*]; omega))
local macro_rules | `(tactic| walk_at "w") => `(tactic| first
  | with_reducible refine w_seq ?_
  | with_reducible refine w_asg ?_
  | with_reducible refine w_cons ?_
  | with_reducible refine w_nil ?_
  | with_reducible refine w_c ?_
  | ((with_reducible refine w_var (d := ?_) ?_ ?_); rotate_left; rfl)
  | with_reducible refine w_bin ?_
  | with_reducible refine w_call ?_
  | with_reducible refine w_if ?_
  | with_reducible refine w_B ?_
  | with_reducible refine w_unB ?_
  | with_reducible refine w_ret ?_
  | with_reducible refine w_drop ?_
  | with_reducible refine w_skip ?_
  | with_reducible refine w_eq (dAdd_int _ _ _) ?_
  | with_reducible refine w_eq (dSub_int _ _ _) ?_
  | with_reducible refine w_eq (dEq_int _ _ _) ?_
  | with_reducible refine w_eq (dEq_str _ _ _) ?_
  | with_reducible refine w_eq (dNe_strs _ _ _) ?_
  | with_reducible refine w_eq (dEq_bls _ _ _) ?_
  | with_reducible refine w_eq (dNe_bls _ _ _) ?_
  | with_reducible refine w_eq (dLt_int _ _ _) ?_
  | with_reducible refine w_eq (dLe_int _ _ _) ?_
  | with_reducible refine w_eq (dGt_int _ _ _) ?_
  | with_reducible refine w_eq (dGe_int _ _ _) ?_
  | with_reducible refine w_eq (dNe_int _ _ _) ?_
  | ((with_reducible refine w_mod ?_ ?_); (first | assumption | decide | omega))
  | ((with_reducible refine w_fdiv ?_ ?_); (first | assumption | decide | omega))
  | ((with_reducible refine w_mulS ?_ ?_); (first | decide | omega))
  | ((with_reducible refine w_addS ?_ ?_); (first | assumption | decide | omega))
  | ((with_reducible refine w_lenS ?_ ?_); (first | assumption | decide | omega))
  | ((with_reducible refine w_slS ?_ ?_); (first | assumption | decide | omega))
  | with_reducible refine w_lenTm ?_
  | with_reducible refine w_eq (dLen_tup _ _) ?_
  | with_reducible refine w_eq (dSl_tup _ _ _ _) ?_
  | with_reducible refine w_eq (dMax_ev _ _ _) ?_
  | with_reducible refine w_eq (dMin_ev _ _ _) ?_
  | with_reducible refine w_eq (dAbs_ev _ _) ?_
  | with_reducible refine w_not ?_
  | with_reducible refine w_and ?_
  | with_reducible refine w_or ?_
  | with_reducible refine br_n ?_
  | with_reducible refine br_tt ?_
  | with_reducible refine br_ff ?_
  | ((with_reducible refine br_dt ?_ ?_); (first | assumption | omega | rfl))
  | ((with_reducible refine br_df ?_ ?_); (first | assumption | omega))
  | with_reducible refine w_tup ?_
  | ((with_reducible refine w_toTup ?_ ?_); exact (by simp))
  | with_reducible refine w_lst ?_
  | with_reducible refine w_lc ?_
  | with_reducible refine w_for ?_
  | with_reducible refine w_range1 ?_
  | with_reducible refine w_range2 ?_
  | ((with_reducible refine w_dR1 ?_ ?_); (first | decide | omega))
  | ((with_reducible refine w_dR2 ?_ ?_); (first | decide | omega))
  | with_reducible refine w_iter ?_
  | with_reducible refine w_eq (iter1_tup _ _) ?_
  | with_reducible refine w_eq (iter1_str _ _) ?_
  | with_reducible refine w_sl ?_
  | with_reducible refine w_no ?_
  | with_reducible refine w_some ?_
  | with_reducible refine w_unI ?_
  | with_reducible refine w_meth ?_
  | with_reducible refine w_isi ?_
  | with_reducible refine w_zip ?_
  | with_reducible refine w_ifE ?_
  | with_reducible refine w_andV ?_
  | with_reducible refine w_orV ?_
  | with_reducible refine w_notV ?_
  | with_reducible refine w_andK ?_
  | with_reducible refine w_orK ?_
  | with_reducible refine w_notK ?_
  | with_reducible refine w_revL ?_
  | with_reducible refine w_listRg1 ?_
  | with_reducible refine w_tindex ?_
  | with_reducible refine w_setIx ?_
  | with_reducible refine w_un ?_
  | with_reducible refine w_rev1 ?_
  | with_reducible refine w_rev2 ?_
  | with_reducible refine w_chain ?_
  | with_reducible refine w_chK ?_
  | with_reducible refine w_retN ?_
  | with_reducible refine w_brk ?_
  | with_reducible refine w_cont ?_
  | with_reducible refine w_asgT ?_
  | with_reducible refine w_eq (isi_str_str _ _) ?_
  | with_reducible refine w_eq (isi_int_int _ _) ?_
  | with_reducible refine w_eq (isi_tup_tup _ _) ?_
  | with_reducible refine w_eq (isi_bool_int _ _) ?_
  | with_reducible refine w_eq (isi_str_int _ _) ?_
  | ((with_reducible refine w_lenLm (α := ?_) (f := ?_) (l := ?_) ?_ ?_); rotate_left; rotate_left; rotate_left; walk_at "gl")
  | ((with_reducible refine w_lenL (l := ?_) ?_ ?_); rotate_left; walk_at "gl")
  | ((with_reducible refine w_iterL (l := ?_) ?_ ?_); rotate_left; walk_at "gl"; dsimp only)
  | ((with_reducible refine w_tupL (l := ?_) ?_ ?_); rotate_left; walk_at "gl")
  | ((with_reducible refine w_ixT (d := ?_) ?_ ?_); rotate_left; (first | with_reducible assumption | rfl))
  | ((with_reducible refine w_ixL (l := ?_) (d := ?_) ?_ ?_ ?_); rotate_left; rotate_left; walk_at "gl"; (first | with_reducible assumption | rfl))
  | ((with_reducible refine w_addT ?_ ?_); walk_at "bd")
  | ((with_reducible refine ⟨?_, ?_⟩); (with_reducible (show isListD (.ref _) _ = true)); walk_at "il")
  | with_reducible refine w_tryK ?_
  | with_reducible refine w_raise ?_
  | with_reducible refine w_raise0 ?_
  | with_reducible refine w_isX ?_
  | ((with_reducible refine w_isXK (k := ?_) ?_ ?_); rotate_left; (first | with_reducible exact lkA | (apply lkB; decide +kernel; exact lkA) | (apply lkB; decide +kernel; apply lkB; decide +kernel; exact lkA) | (apply lkB; decide +kernel; apply lkB; decide +kernel; apply lkB; decide +kernel; exact lkA)))
  | with_reducible refine w_xf ?_
  | ((with_reducible refine w_xfK ?_ ?_ ?_); (exact List.mem_cons_self); (decide))
  | with_reducible refine w_eq (isN_xo _) ?_
  | with_reducible refine w_eq (dNeg_int _ _) ?_)
local macro_rules | `(tactic| walk_at "go") => `(tactic| (repeat (walk_at "w")); try dsimp only [List.set])
local macro_rules | `(tactic| walk_at "fn") => `(tactic| ((refine w_fun ?_); simp only [startD, List.map_cons, List.map_nil, List.reduceReplicate, Nat.reduceSub, List.cons_append, List.nil_append]; walk_at "go"))
/-! names of forms: k11 to k19 -/
theorem inD_strsP {x : Str} {l : List Str} {b : D} {h : MH} (e : seqOf h b = some (l.map .str)) (hb : ∀ z, b ≠ .str z) : inD (.str x) b h = some (decide (x ∈ l)) := by
  have h1 : ((l.map D.str).all flatD) = true := by
    rw [List.all_eq_true]
    intro d hd
    obtain ⟨y, _, rfl⟩ := List.mem_map.mp hd
    rfl
  have h2 : ((l.map D.str).any fun y => eqF y (.str x)) = decide (x ∈ l) := by
    rw [Bool.eq_iff_iff, List.any_eq_true, decide_eq_true_iff]
    constructor
    · rintro ⟨d, hd, e⟩
      obtain ⟨y, hy, rfl⟩ := List.mem_map.mp hd
      have : y = x := by simpa [eqF] using e
      exact this ▸ hy
    · intro hx
      exact ⟨.str x, List.mem_map.mpr ⟨x, hx, rfl⟩, by simp [eqF]⟩
  cases b with
  | str z => exact absurd rfl (hb z)
  | _ => simp only [inD, e, flatD, h1, and_self, if_true, h2]
theorem w_inLsP {x : Str} {l : List Str} {h : MH} {Q : D → MH → Prop} {E : XE} {i : Nat} (e : getL h i = some (l.map .str)) (q : Q (.bl (decide (x ∈ l))) h) : Sat (dIn (.str x) (.ref i) h) Q E := w_eq (by simp only [dIn, inD_strsP (x := x) (l := l) (b := .ref i) (h := h) e (fun z => by simp)]) q
/-- the letter of a number -/
def lt1 (i : Int) : Nat := 97 + (i % 26).toNat
def l1 (i : Int) : Str := ⟨#[lt1 i]⟩
theorem abc_cps : (Str.ofString "abcdefghijklmnopqrstuvwxyz").cps.toList = (List.range 26).map (97 + ·) := by decide +kernel
theorem lt1_ltr (i : Int) : Ltr (lt1 i) := by
  have := mod_in i (n := 26) (by decide)
  unfold Ltr lt1
  omega
theorem l1_ls (i : Int) : Ls 1 (l1 i) := ⟨rfl, fun d hd => by
  have : d = lt1 i := by simpa [l1] using hd
  rw [this]
  exact lt1_ltr i⟩
theorem w_ltr1 {i : Int} {h : MH} {Q : D → MH → Prop} {E : XE} (q : Q (.str (l1 i)) h) : Sat (dIx (.str (Str.ofString "abcdefghijklmnopqrstuvwxyz")) (.int (i % 26)) h) Q E := by
  have hm := mod_in i (n := 26) (by decide)
  obtain ⟨c, e1, e2⟩ := atI_in (l := (Str.ofString "abcdefghijklmnopqrstuvwxyz").cps.toList) hm.1 (by rw [← str_len, lt_len]; exact hm.2)
  rw [abc_cps, List.getElem?_map, List.getElem?_range (by omega)] at e2
  have : c = lt1 i := by
    simp at e2
    rw [← e2]
    rfl
  subst this
  exact w_ixS (by rw [lt_len]; decide) e1 q
theorem l1_inj {i j : Int} (hi : 0 ≤ i ∧ i < 26) (hj : 0 ≤ j ∧ j < 26) (e : l1 i = l1 j) : i = j := by
  have : lt1 i = lt1 j := by
    have := congrArg (fun s : Str => s.cps.toList) e
    simpa [l1] using this
  unfold lt1 at this
  omega
theorem many_l1 {xs : List Str} {j : Nat} (hj : j ≤ 26) (h : ∀ t : Nat, t < j → l1 (t : Int) ∈ xs) : j ≤ xs.length := by
  have hn : ((List.range j).map fun t : Nat => l1 (t : Int)).Nodup := by
    rw [List.nodup_iff_pairwise_ne, List.pairwise_map]
    refine (List.nodup_iff_pairwise_ne.mp (List.nodup_range (n := j))).imp_of_mem fun {a b} ha hb hne e => ?_
    have ha := List.mem_range.mp ha
    have hb := List.mem_range.mp hb
    have := l1_inj (i := (a : Int)) (j := (b : Int)) (by omega) (by omega) e
    omega
  have hs : ((List.range j).map fun t : Nat => l1 (t : Int)) ⊆ xs := fun x hx => by
    obtain ⟨t, ht, rfl⟩ := List.mem_map.mp hx
    exact h t (List.mem_range.mp ht)
  have := hn.length_le_of_subset hs
  simpa using this
theorem n_any {c n : Int} (hn : 0 ≤ n ∧ n ≤ 8) {h : MH} : Sat (m_any_names_23d34 [.int c, .int n] h) (fun d h' => ∃ (i : Nat) (xs : List Str), d = .ref i ∧ Own h h' [(i, xs.map .str)] ∧ (xs.length : Int) = n ∧ xs.Nodup ∧ ∀ x ∈ xs, Nm x) noX := by
  walk_at "fn"
  refine o_new (Own.nil h) (by simp) fun iL h1 o1 => ?_
  walk_at "go"
  refine w_loop0 (fun k ρ h' => ∃ (c : Int) (o4 o5 o6 o7 : Option D) (xs : List Str), ρ = [some (.int c), some (.int n), some (.str (Str.ofString "abcdefghijklmnopqrstuvwxyz")), some (.ref iL), o4, o5, o6, o7] ∧ Own h h' [(iL, xs.map .str)] ∧ xs.length = k ∧ xs.Nodup ∧ ∀ x ∈ xs, Nm x)
    ⟨c, none, none, none, none, [], rfl, o1, rfl, List.nodup_nil, fun x hx => by simp at hx⟩ (fun _ _ _ _ => rfl) ?_ ?_
  · rintro k d ρ h' hd ⟨c, o4, o5, o6, o7, xs, rfl, o, hk, hnd, hnm⟩
    obtain ⟨hk', rfl⟩ := rangeD_get hd
    refine ⟨_, rfl, ?_⟩
    have hm := mod_in c (n := 8) (by decide)
    dsimp only [List.set]
    walk_at "go"
    generalize hsz : 1 + c % 8 = sz at *
    refine w_while (fun m ρ h'' => h'' = h' ∧ ∃ (c : Int) (w : Str) (a : Nat), m = 8 - a ∧ ρ = [some (.int c), some (.int n), some (.str (Str.ofString "abcdefghijklmnopqrstuvwxyz")), some (.ref iL), some (.int (0 + (k : Int))), some (.int sz), some (.str w), o7] ∧ Ls a w ∧ (a : Int) ≤ sz) 8 (by decide) ⟨rfl, c / 8, _, 0, rfl, rfl, ⟨rfl, fun c hc => by rw [emp_cps] at hc; simp at hc⟩, by omega⟩ ?_
    rintro m ρ h'' ⟨rfl, c2, w, a, rfl, rfl, hw, ha⟩
    walk_at "go"
    refine w_lenS (by rw [hw.1]; omega) ?_
    walk_at "go"
    rw [hw.1]
    refine br_d (fun q => ?_) (fun q => ?_)
    · walk_at "go"
      refine w_ltr1 ?_
      refine w_addLs hw (l1_ls _) (by omega) fun hxz => ?_
      walk_at "go"
      exact ⟨8 - (a + 1), by omega, rfl, _, _, a + 1, rfl, rfl, hxz, by omega⟩
    have hwn : Nm w := hw.nm (by omega) (by omega)
    walk_at "go"
    refine w_while (fun m ρ h3 => h3 = h'' ∧ ∃ (w : Str) (j : Nat), m = xs.length + 2 - j ∧ ρ = [some (.int c2), some (.int n), some (.str (Str.ofString "abcdefghijklmnopqrstuvwxyz")), some (.ref iL), some (.int (0 + (k : Int))), some (.int sz), some (.str w), some (.int (j : Int))] ∧ Nm w ∧ j ≤ xs.length + 1 ∧ (∀ t : Nat, t + 1 < j → l1 (t : Int) ∈ xs) ∧ (1 ≤ j → w = l1 ((j : Int) - 1))) (xs.length + 2) (by omega) ⟨rfl, w, 0, rfl, rfl, hwn, by omega, fun t ht => by omega, fun z => by omega⟩ ?_
    rintro m ρ h3 ⟨rfl, w, j, rfl, rfl, hw2, hj, hall, hlast⟩
    walk_at "go"
    refine w_inLsP (o.atL 0 rfl) ?_
    walk_at "go"
    refine br_d (fun q => ?_) (fun q => ?_)
    · have hj2 : j ≤ xs.length := many_l1 (by omega) fun t ht => by
        by_cases z : t + 1 < j
        · exact hall t z
        · have : (j : Int) - 1 = (t : Int) := by omega
          rw [← this, ← hlast (by omega)]
          exact q
      walk_at "go"
      refine w_ltr1 ?_
      walk_at "go"
      refine w_eq (by rw [dMul_str, if_pos ⟨by omega, by omega, by rw [show (l1 (j : Int)).length = 1 from rfl]; omega⟩]) ?_
      have e1 : Txt.mul (l1 (j : Int)) (1 + (j : Int) / 26) = l1 (j : Int) := by
        have : (1 : Int) + (j : Int) / 26 = 1 := by omega
        rw [this]
        rfl
      rw [e1]
      walk_at "go"
      exact ⟨xs.length + 2 - (j + 1), by omega, rfl, l1 (j : Int), j + 1, rfl, by simp, (l1_ls _).nm (by decide) (by decide), by omega, fun t ht => by
        by_cases z : t + 1 < j
        · exact hall t z
        · have : (j : Int) - 1 = (t : Int) := by omega
          rw [← this, ← hlast (by omega)]
          exact q, fun _ => by simp⟩
    · walk_at "go"
      refine o_app o 0 rfl (by simp; omega) fun h5 o5 => ?_
      rw [List.set_cons_zero, map_app1] at o5
      exact ⟨_, _, _, _, _, _, rfl, o5, by simp [hk], by
        rw [List.nodup_append]
        exact ⟨hnd, by simp, fun a ha b hb => by rw [List.mem_singleton.mp hb]; rintro rfl; exact q ha⟩, mem_app hnm hw2⟩
  · rintro ρ h' ⟨c, o4, o5, o6, o7, xs, rfl, o, hk, hnd, hnm⟩
    rw [rangeD_length] at hk
    walk_at "go"
    exact ⟨iL, xs, rfl, o, by omega, hnd, hnm⟩
theorem cutP_to {T : Str} {a : Int} (h0 : 0 ≤ a) : (cutS T none (some a)).cps.toList = T.cps.toList.take a.toNat := by
  obtain ⟨k, rfl⟩ := Int.eq_ofNat_of_zero_le h0
  rw [Int.toNat_natCast]
  unfold cutS
  rw [HT.sIx_none, HT.sIx_nat, List.drop_zero, Nat.sub_zero, str_len]
  rcases Nat.lt_or_ge k T.cps.toList.length with z | z
  · rw [Nat.min_eq_left (Nat.le_of_lt z)]
  · rw [Nat.min_eq_right z, List.take_length, List.take_of_length_le z]
theorem cutP_from {T : Str} {a : Int} (h0 : 0 ≤ a) : (cutS T (some a) none).cps.toList = T.cps.toList.drop a.toNat := by
  obtain ⟨k, rfl⟩ := Int.eq_ofNat_of_zero_le h0
  rw [Int.toNat_natCast]
  unfold cutS
  rw [HT.sIx_none, HT.sIx_nat, str_len]
  rcases Nat.lt_or_ge k T.cps.toList.length with z | z
  · rw [Nat.min_eq_left (Nat.le_of_lt z), List.take_of_length_le (by simp)]
  · rw [Nat.min_eq_right z, List.drop_of_length_le z, List.drop_length, List.take_nil]
theorem Ls.to {n : Nat} {x : Str} (hx : Ls n x) {a : Int} (h0 : 0 ≤ a) (h1 : a ≤ n) : Ls a.toNat (cutS x none (some a)) := by
  have hl := hx.1
  rw [str_len] at hl
  refine ⟨?_, fun c hc => ?_⟩
  · rw [str_len, cutP_to h0, List.length_take, hl]
    omega
  · rw [cutP_to h0] at hc
    exact hx.2 c (List.mem_of_mem_take hc)
theorem Ls.from {n : Nat} {x : Str} (hx : Ls n x) {a : Int} (h0 : 0 ≤ a) (h1 : a ≤ n) : Ls (n - a.toNat) (cutS x (some a) none) := by
  have hl := hx.1
  rw [str_len] at hl
  refine ⟨?_, fun c hc => ?_⟩
  · rw [str_len, cutP_from h0, List.length_drop, hl]
  · rw [cutP_from h0] at hc
    exact hx.2 c (List.mem_of_mem_drop hc)
theorem Ls.join {ys : List Str} (h : ∀ y ∈ ys, Ls 1 y) : Ls ys.length (Txt.join (Str.ofString "") ys) := by
  refine ⟨?_, fun c hc => ?_⟩
  · rw [str_len, join_cps]
    induction ys with
    | nil => rfl
    | cons y ys ih =>
      have h1 := (h y List.mem_cons_self).1
      have h2 := ih fun z hz => h z (List.mem_cons_of_mem _ hz)
      rw [str_len] at h1
      rw [List.map_cons, List.flatten_cons, List.length_append, h1, h2, List.length_cons]
      omega
  · rw [join_cps] at hc
    obtain ⟨l, hl, hc⟩ := List.mem_flatten.mp hc
    obtain ⟨y, hy, rfl⟩ := List.mem_map.mp hl
    exact (h y hy).2 c hc
theorem strs_P {S : Nat → Str → Prop} : ∀ {ys : List D}, (∀ (i : Nat) y, ys[i]? = some y → ∃ x, y = .str x ∧ S i x) → ∃ ns : List Str, ys = ns.map .str ∧ ∀ (i : Nat) x, ns[i]? = some x → S i x
  | [], _ => ⟨[], rfl, fun i x hx => by simp at hx⟩
  | y :: ys, h => by
    obtain ⟨x, rfl, hx⟩ := h 0 y rfl
    obtain ⟨ns, rfl, hn⟩ := strs_P (S := fun i => S (i + 1)) (ys := ys) fun i z hz => h (i + 1) z (by simpa using hz)
    refine ⟨x :: ns, rfl, fun i z hz => ?_⟩
    cases i with
    | zero => simp at hz; exact hz ▸ hx
    | succ i => exact hn i z (by simpa using hz)
theorem nodup_P {xs : List Str} (f : Str → Int) (h : ∀ (i : Nat) x, xs[i]? = some x → f x = (i : Int)) : xs.Nodup := by
  rw [List.nodup_iff_pairwise_ne, List.pairwise_iff_getElem]
  intro i j hi hj hij e
  have h1 := h i _ (List.getElem?_eq_getElem hi)
  have h2 := h j _ (List.getElem?_eq_getElem hj)
  rw [e] at h1
  omega
theorem nodup_P2 {xs : List Str} {α : Type} (f : Str → α) (g : Nat → α) (h : ∀ (i : Nat) x, xs[i]? = some x → f x = g i) (hg : ∀ i j : Nat, i < j → j < xs.length → g i ≠ g j) : xs.Nodup := by
  rw [List.nodup_iff_pairwise_ne, List.pairwise_iff_getElem]
  intro i j hi hj hij e
  have h1 := h i _ (List.getElem?_eq_getElem hi)
  have h2 := h j _ (List.getElem?_eq_getElem hj)
  rw [e] at h1
  exact hg i j hij hj (h1.symm.trans h2)
theorem n_names {c n : Int} (hn : 0 ≤ n ∧ n ≤ 8) {h : MH} : Sat (m_names_a4247 [.int c, .int n] h) (fun d h' => ∃ (i : Nat) (xs : List Str), d = .ref i ∧ Own h h' [(i, xs.map .str)] ∧ (xs.length : Int) = n ∧ xs.Nodup ∧ ∀ x ∈ xs, Nm x) noX := by
  walk_at "fn"
  refine w_pow (n := 18) (by decide) ?_
  walk_at "go"
  refine br_d (fun q => ?_) (fun q => ?_)
  · walk_at "go"
    exact (n_any hn).mono fun d h' hh => hh
  walk_at "go"
  have hu := mod_in c (n := 1000003) (by decide)
  generalize c % 1000003 = u at *
  refine ⟨rfl, ?_⟩
  walk_at "go"
  refine o_comp (fun _ y => ∃ x, y = .str x ∧ Ls 1 x) (Own.nil h) (by simp) (fun _ _ => rfl) ?_ ?_
  · intro k d h' hd _
    obtain ⟨hk, rfl⟩ := rangeD_get hd
    have hk' : k < 8 := hk
    have hkk : (0 + (k : Int)) * (0 + (k : Int)) ≤ 49 ∧ 0 ≤ (0 + (k : Int)) * (0 + (k : Int)) := by
      have e : (0 + (k : Int)) * (0 + (k : Int)) = ((k * k : Nat) : Int) := by push_cast; simp
      have := Nat.mul_le_mul (show k ≤ 7 by omega) (show k ≤ 7 by omega)
      rw [e]
      omega
    refine ⟨_, rfl, ?_⟩
    walk_at "go"
    exact w_ltr1 ⟨rfl, _, rfl, l1_ls _⟩
  intro ys hy hp i1 h1 o1
  obtain ⟨ns, rfl, hns⟩ := strs_P (S := fun _ x => Ls 1 x) hp
  have hns' : ∀ x ∈ ns, Ls 1 x := fun x hx => by
    obtain ⟨i, hi, rfl⟩ := List.mem_iff_getElem.mp hx
    exact hns i _ (List.getElem?_eq_getElem hi)
  have hy8 : ns.length = 8 := by simpa using hy
  have sm : (ns.map (·.length)).sum ≤ 8 := by
    rw [← hy8]
    clear hp hy hy8 o1 hns
    induction ns with
    | nil => simp
    | cons y ys ih =>
      have h1 := (hns' y List.mem_cons_self).1
      have h2 := ih fun z hz => hns' z (List.mem_cons_of_mem _ hz)
      simp only [List.map_cons, List.sum_cons, List.length_cons]
      omega
  walk_at "go"
  refine w_join (o1.atL 0 rfl) (by rw [show (Str.ofString "").length = 0 from rfl]; omega) ?_
  have hb := Ls.join hns'
  rw [hy8] at hb
  generalize Txt.join (Str.ofString "") ns = base at hb
  have hbl : base.length ≤ 1000000 := by rw [hb.1]; decide
  walk_at "go"
  refine br_d (fun c1 => ?_) (fun c1 => ?_)
  · walk_at "go"
    refine o_comp (fun k y => ∃ x, y = .str x ∧ Ls (k + 1) x ∧ (k : Int) < n) o1.none (by simp; omega) (fun _ _ => rfl) ?_ ?_
    · intro k d h' hd _
      obtain ⟨hk, rfl⟩ := rangeD_get hd
      refine ⟨_, rfl, ?_⟩
      walk_at "go"
      have := hb.to (a := 0 + (k : Int) + 1) (by omega) (by omega)
      rw [show (0 + (k : Int) + 1).toNat = k + 1 by omega] at this
      exact ⟨rfl, _, rfl, this, by omega⟩
    · intro ys hy hp i2 h2 o2
      obtain ⟨xs, rfl, hxs⟩ := strs_P (S := fun k x => Ls (k + 1) x ∧ (k : Int) < n) hp
      refine ⟨i2, xs, rfl, o2, by simp at hy; omega, nodup_P (fun x => (x.length : Int) - 1) fun i x hx => ?_, fun x hx => ?_⟩
      · rw [(hxs i x hx).1.1]; omega
      · obtain ⟨i, hi, rfl⟩ := List.mem_iff_getElem.mp hx
        obtain ⟨e1, e2⟩ := hxs i _ (List.getElem?_eq_getElem hi)
        exact e1.nm (by omega) (by omega)
  · walk_at "go"
    have ha := mod_in (u / 2) (n := 8) (by decide)
    generalize u / 2 % 8 = t at *
    have hs := mod_in (u / 16) (n := 8 - t) (by omega)
    walk_at "go"
    generalize hsz : t + 1 + u / 16 % (8 - t) = sz at *
    have hsz1 : t + 1 ≤ sz ∧ sz ≤ 8 := by omega
    refine o_new o1.none (by simp) fun iL h2 o2 => ?_
    walk_at "go"
    refine w_loop0 (fun k ρ h' => ∃ (o8 o9 : Option D) (xs : List Str), ρ = [some (.int c), some (.int n), some (.str (Str.ofString "abcdefghijklmnopqrstuvwxyz")), some (.int u), some (.str base), some (.int t), some (.int sz), some (.ref iL), o8, o9] ∧ Own h h' [(iL, xs.map .str)] ∧ xs.length = k ∧ ∀ (i : Nat) x, xs[i]? = some x → Ls sz.toNat x ∧ x.cps.toList[t.toNat]? = some (lt1 (u / 128 + (i : Int))))
      ⟨none, none, [], rfl, o2, rfl, fun i x hx => by simp at hx⟩ (fun _ _ _ _ => rfl) ?_ ?_
    · rintro k d ρ h' hd ⟨o8, o9, xs, rfl, o, hk, hxs⟩
      obtain ⟨hk', rfl⟩ := rangeD_get hd
      refine ⟨_, rfl, ?_⟩
      dsimp only [List.set]
      walk_at "go"
      refine w_ltr1 ?_
      have hA := hb.to (a := t) ha.1 (by omega)
      refine w_addLs hA (l1_ls _) (by omega) fun hB => ?_
      walk_at "go"
      have hC := hb.from (a := t + 1) (by omega) (by omega)
      refine w_addLs hB hC (by omega) fun hD => ?_
      have hw8 : t.toNat + 1 + (8 - (t + 1).toNat) = 8 := by omega
      rw [hw8] at hD
      have hch : ((cutS base none (some t) ++ l1 (u / 128 + (0 + (k : Int)))) ++ cutS base (some (t + 1)) none).cps.toList[t.toNat]? = some (lt1 (u / 128 + (0 + (k : Int)))) := by
        have hl := hA.1
        rw [str_len] at hl
        rw [app_cps, app_cps, List.append_assoc, List.getElem?_append_right (by omega), hl, Nat.sub_self]
        rfl
      generalize (cutS base none (some t) ++ l1 (u / 128 + (0 + (k : Int)))) ++ cutS base (some (t + 1)) none = w at *
      have hwl : w.length ≤ 1000000 := by rw [hD.1]; decide
      walk_at "go"
      refine o_app o 0 rfl (by simp; omega) fun h5 o5 => ?_
      rw [List.set_cons_zero, map_app1] at o5
      refine ⟨_, _, _, rfl, o5, by simp [hk], fun i x hx => ?_⟩
      by_cases hi : i < xs.length
      · rw [List.getElem?_append_left hi] at hx
        exact hxs i x hx
      · rw [List.getElem?_append_right (by omega)] at hx
        have hi2 : i - xs.length = 0 := by
          rcases Nat.eq_zero_or_pos (i - xs.length) with z | z
          · exact z
          · rw [List.getElem?_eq_none (by simp; omega)] at hx; cases hx
        rw [hi2] at hx
        have hx : cutS w none (some sz) = x := by simpa using hx
        subst hx
        refine ⟨hD.to (by omega) (by omega), ?_⟩
        rw [cutP_to (by omega), List.getElem?_take_of_lt (by omega), hch]
        have : i = k := by omega
        rw [this, Int.zero_add]
    · rintro ρ h' ⟨o8, o9, xs, rfl, o, hk, hxs⟩
      rw [rangeD_length] at hk
      walk_at "go"
      refine ⟨iL, xs, rfl, o, by omega, nodup_P2 (fun x => x.cps.toList[t.toNat]?) (fun i => some (lt1 (u / 128 + (i : Int)))) (fun i x hx => (hxs i x hx).2) fun i j hij hj e => ?_, fun x hx => ?_⟩
      · have e : lt1 (u / 128 + (i : Int)) = lt1 (u / 128 + (j : Int)) := Option.some.inj e
        unfold lt1 at e
        omega
      · obtain ⟨i, hi, rfl⟩ := List.mem_iff_getElem.mp hx
        obtain ⟨e1, e2⟩ := hxs i _ (List.getElem?_eq_getElem hi)
        exact e1.nm (by omega) (by omega)
end Mi

namespace Mi
open PySem L2
local macro_rules | `(tactic| walk_at "gl") => `(tactic| first
  | assumption
  | (refine Own.atL (h0 := ?_) (L := ?_) ?_ 0 ?_; rotate_left; rotate_left; assumption; rfl)
  | (refine Own.atL (h0 := ?_) (L := ?_) ?_ 1 ?_; rotate_left; rotate_left; assumption; rfl)
  | (refine Own.atL (h0 := ?_) (L := ?_) ?_ 2 ?_; rotate_left; rotate_left; assumption; rfl)
  | (refine Own.atL (h0 := ?_) (L := ?_) ?_ 3 ?_; rotate_left; rotate_left; assumption; rfl)
  | (refine Own.atL (h0 := ?_) (L := ?_) ?_ 4 ?_; rotate_left; rotate_left; assumption; rfl)
  | (refine Own.atL (h0 := ?_) (L := ?_) ?_ 5 ?_; rotate_left; rotate_left; assumption; rfl)
  | (refine Own.atL (h0 := ?_) (L := ?_) ?_ 6 ?_; rotate_left; rotate_left; assumption; rfl)
  | (refine Own.atL (h0 := ?_) (L := ?_) ?_ 7 ?_; rotate_left; rotate_left; assumption; rfl)
  | (refine Own.atL (h0 := ?_) (L := ?_) ?_ 8 ?_; rotate_left; rotate_left; assumption; rfl)
  | (refine Own.atL (h0 := ?_) (L := ?_) ?_ 9 ?_; rotate_left; rotate_left; assumption; rfl)
  | (refine Own.getL (h0 := ?_) (L := ?_) ?_ ?_; rotate_left; rotate_left; assumption; assumption))
local macro_rules | `(tactic| walk_at "il") => `(tactic| first
  | (refine Own.isL (h0 := ?_) (L := ?_) (l := ?_) ?_ 0 ?_; rotate_left; rotate_left; rotate_left; assumption; rfl)
  | (refine Own.isL (h0 := ?_) (L := ?_) (l := ?_) ?_ 1 ?_; rotate_left; rotate_left; rotate_left; assumption; rfl)
  | (refine Own.isL (h0 := ?_) (L := ?_) (l := ?_) ?_ 2 ?_; rotate_left; rotate_left; rotate_left; assumption; rfl)
  | (refine Own.isL (h0 := ?_) (L := ?_) (l := ?_) ?_ 3 ?_; rotate_left; rotate_left; rotate_left; assumption; rfl)
  | (refine Own.isL (h0 := ?_) (L := ?_) (l := ?_) ?_ 4 ?_; rotate_left; rotate_left; rotate_left; assumption; rfl)
  | (refine Own.isL (h0 := ?_) (L := ?_) (l := ?_) ?_ 5 ?_; rotate_left; rotate_left; rotate_left; assumption; rfl)
  | (refine Own.isL (h0 := ?_) (L := ?_) (l := ?_) ?_ 6 ?_; rotate_left; rotate_left; rotate_left; assumption; rfl)
  | (refine Own.isL (h0 := ?_) (L := ?_) (l := ?_) ?_ 7 ?_; rotate_left; rotate_left; rotate_left; assumption; rfl)
  | (refine Own.isL (h0 := ?_) (L := ?_) (l := ?_) ?_ 8 ?_; rotate_left; rotate_left; rotate_left; assumption; rfl)
  | (refine Own.isL (h0 := ?_) (L := ?_) (l := ?_) ?_ 9 ?_; rotate_left; rotate_left; rotate_left; assumption; rfl))
local macro_rules | `(tactic| walk_at "bd") => `(tactic| first | assumption | omega | (simp; done) | (simp; omega) | (simp [*]; done) | (simp [*]; omega))
local macro_rules | `(tactic| walk_at "w") => `(tactic| first
  | with_reducible refine w_seq ?_
  | with_reducible refine w_asg ?_
  | with_reducible refine w_cons ?_
  | with_reducible refine w_nil ?_
  | with_reducible refine w_c ?_
  | ((with_reducible refine w_var (d := ?_) ?_ ?_); rotate_left; rfl)
  | with_reducible refine w_bin ?_
  | with_reducible refine w_call ?_
  | with_reducible refine w_if ?_
  | with_reducible refine w_B ?_
  | with_reducible refine w_unB ?_
  | with_reducible refine w_ret ?_
  | with_reducible refine w_drop ?_
  | with_reducible refine w_skip ?_
  | with_reducible refine w_eq (dAdd_int _ _ _) ?_
  | with_reducible refine w_eq (dSub_int _ _ _) ?_
  | with_reducible refine w_eq (dEq_int _ _ _) ?_
  | with_reducible refine w_eq (dEq_str _ _ _) ?_
  | with_reducible refine w_eq (dNe_strs _ _ _) ?_
  | with_reducible refine w_eq (dEq_bls _ _ _) ?_
  | with_reducible refine w_eq (dNe_bls _ _ _) ?_
  | with_reducible refine w_eq (dLt_int _ _ _) ?_
  | with_reducible refine w_eq (dLe_int _ _ _) ?_
  | with_reducible refine w_eq (dGt_int _ _ _) ?_
  | with_reducible refine w_eq (dGe_int _ _ _) ?_
  | with_reducible refine w_eq (dNe_int _ _ _) ?_
  | ((with_reducible refine w_mod ?_ ?_); (first | assumption | decide | omega))
  | ((with_reducible refine w_fdiv ?_ ?_); (first | assumption | decide | omega))
  | ((with_reducible refine w_mulS ?_ ?_); (first | decide | omega))
  | ((with_reducible refine w_addS ?_ ?_); (first | assumption | decide | omega))
  | ((with_reducible refine w_lenS ?_ ?_); (first | assumption | decide | omega))
  | ((with_reducible refine w_slS ?_ ?_); (first | assumption | decide | omega))
  | with_reducible refine w_lenTm ?_
  | with_reducible refine w_eq (dLen_tup _ _) ?_
  | with_reducible refine w_eq (dSl_tup _ _ _ _) ?_
  | with_reducible refine w_eq (dMax_ev _ _ _) ?_
  | with_reducible refine w_eq (dMin_ev _ _ _) ?_
  | with_reducible refine w_eq (dAbs_ev _ _) ?_
  | with_reducible refine w_not ?_
  | with_reducible refine w_and ?_
  | with_reducible refine w_or ?_
  | with_reducible refine br_n ?_
  | with_reducible refine br_tt ?_
  | with_reducible refine br_ff ?_
  | ((with_reducible refine br_dt ?_ ?_); (first | assumption | omega | rfl))
  | ((with_reducible refine br_df ?_ ?_); (first | assumption | omega))
  | with_reducible refine w_tup ?_
  | ((with_reducible refine w_toTup ?_ ?_); exact (by simp))
  | with_reducible refine w_lst ?_
  | with_reducible refine w_lc ?_
  | with_reducible refine w_for ?_
  | with_reducible refine w_range1 ?_
  | with_reducible refine w_range2 ?_
  | ((with_reducible refine w_dR1 ?_ ?_); (first | decide | omega))
  | ((with_reducible refine w_dR2 ?_ ?_); (first | decide | omega))
  | with_reducible refine w_iter ?_
  | with_reducible refine w_eq (iter1_tup _ _) ?_
  | with_reducible refine w_eq (iter1_str _ _) ?_
  | with_reducible refine w_sl ?_
  | with_reducible refine w_no ?_
  | with_reducible refine w_some ?_
  | with_reducible refine w_unI ?_
  | with_reducible refine w_meth ?_
  | with_reducible refine w_isi ?_
  | with_reducible refine w_zip ?_
  | with_reducible refine w_ifE ?_
  | with_reducible refine w_andV ?_
  | with_reducible refine w_orV ?_
  | with_reducible refine w_notV ?_
  | with_reducible refine w_andK ?_
  | with_reducible refine w_orK ?_
  | with_reducible refine w_notK ?_
  | with_reducible refine w_revL ?_
  | with_reducible refine w_listRg1 ?_
  | with_reducible refine w_tindex ?_
  | with_reducible refine w_setIx ?_
  | with_reducible refine w_un ?_
  | with_reducible refine w_rev1 ?_
  | with_reducible refine w_rev2 ?_
  | with_reducible refine w_chain ?_
  | with_reducible refine w_chK ?_
  | with_reducible refine w_retN ?_
  | with_reducible refine w_brk ?_
  | with_reducible refine w_cont ?_
  | with_reducible refine w_asgT ?_
  | with_reducible refine w_eq (isi_str_str _ _) ?_
  | with_reducible refine w_eq (isi_int_int _ _) ?_
  | with_reducible refine w_eq (isi_tup_tup _ _) ?_
  | with_reducible refine w_eq (isi_bool_int _ _) ?_
  | with_reducible refine w_eq (isi_str_int _ _) ?_
  | ((with_reducible refine w_lenLm (α := ?_) (f := ?_) (l := ?_) ?_ ?_); rotate_left; rotate_left; rotate_left; walk_at "gl")
  | ((with_reducible refine w_lenL (l := ?_) ?_ ?_); rotate_left; walk_at "gl")
  | ((with_reducible refine w_iterL (l := ?_) ?_ ?_); rotate_left; walk_at "gl"; dsimp only)
  | ((with_reducible refine w_tupL (l := ?_) ?_ ?_); rotate_left; walk_at "gl")
  | ((with_reducible refine w_ixT (d := ?_) ?_ ?_); rotate_left; (first | with_reducible assumption | rfl))
  | ((with_reducible refine w_ixL (l := ?_) (d := ?_) ?_ ?_ ?_); rotate_left; rotate_left; walk_at "gl"; (first | with_reducible assumption | rfl))
  | ((with_reducible refine w_addT ?_ ?_); walk_at "bd")
  | ((with_reducible refine ⟨?_, ?_⟩); (with_reducible (show isListD (.ref _) _ = true)); walk_at "il")
  | with_reducible refine w_tryK ?_
  | with_reducible refine w_raise ?_
  | with_reducible refine w_raise0 ?_
  | with_reducible refine w_isX ?_
  | ((with_reducible refine w_isXK (k := ?_) ?_ ?_); rotate_left; (first | with_reducible exact lkA | (apply lkB; decide +kernel; exact lkA) | (apply lkB; decide +kernel; apply lkB; decide +kernel; exact lkA) | (apply lkB; decide +kernel; apply lkB; decide +kernel; apply lkB; decide +kernel; exact lkA)))
  | with_reducible refine w_xf ?_
  | ((with_reducible refine w_xfK ?_ ?_ ?_); (exact List.mem_cons_self); (decide))
  | with_reducible refine w_eq (isN_xo _) ?_
  | with_reducible refine w_eq (dNeg_int _ _) ?_)
local macro_rules | `(tactic| walk_at "go") => `(tactic| (repeat (walk_at "w")); try dsimp only [List.set])
local macro_rules | `(tactic| walk_at "fn") => `(tactic| ((refine w_fun ?_); simp only [startD, List.map_cons, List.map_nil, List.reduceReplicate, Nat.reduceSub, List.cons_append, List.nil_append]; walk_at "go"))
local macro_rules | `(tactic| walk_at "lk") => `(tactic| first | with_reducible exact lkA | (apply lkB; decide +kernel; walk_at "lk"))
local macro_rules | `(tactic| walk_at "mk") => `(tactic| first | with_reducible exact mkA | (apply mkB; decide +kernel; walk_at "mk"))
local macro_rules | `(tactic| walk_at "fk") => `(tactic| first | with_reducible exact fkA | exact fkN | (apply fkB; decide +kernel; walk_at "fk"))
local macro_rules | `(tactic| walk_at "cs") => `(tactic| first | exact List.mem_cons_self | (apply List.mem_cons_of_mem; walk_at "cs"))
local macro_rules | `(tactic| walk_at "w") => `(tactic| first
  | with_reducible refine w_fld ?_
  | ((with_reducible refine w_fldK (c := ?_) (fs := ?_) (v := ?_) ?_ ?_ ?_ ?_); rotate_left; rotate_left; rotate_left; (with_reducible assumption); (walk_at "cs"); (walk_at "fk"))
  | with_reducible refine w_setFld ?_
  | with_reducible refine w_new ?_
  | with_reducible refine w_methI ?_
  | ((with_reducible refine w_methK (c := ?_) (fs := ?_) (F := ?_) ?_ ?_ ?_ ?_); rotate_left; rotate_left; rotate_left; (with_reducible assumption); (walk_at "mk"); (walk_at "fk"))
  | with_reducible refine w_isC ?_
  | ((with_reducible refine w_isCK (c := ?_) (fs := ?_) (k := ?_) ?_ ?_ ?_); rotate_left; rotate_left; rotate_left; (with_reducible assumption); (walk_at "lk"))
  | with_reducible refine w_callD ?_
  | with_reducible refine w_mDSet ?_
  | with_reducible refine w_eq (nN_non _) ?_
  | with_reducible refine w_eq (nN_int _ _) ?_
  | with_reducible refine w_eq (nN_tup _ _) ?_
  | with_reducible refine w_eq (nN_ref _ _) ?_
  | with_reducible refine w_eq (iN_non _) ?_
  | with_reducible refine w_eq (iN_int _ _) ?_
  | with_reducible refine w_eq (iN_tup _ _) ?_
  | with_reducible refine w_eq (iN_ref _ _) ?_)
/-! ### bare -/
abbrev tabB (n : Nat) : MTab := [((Str.ofString "One"), (m_One_bare_7e98d)), ((Str.ofString "Chain"), (m_scc_Chain_bare_b4656 n 0)), ((Str.ofString "Choice"), (m_scc_Chain_bare_b4656 n 1)), ((Str.ofString "Times"), (m_scc_Chain_bare_b4656 n 3)), ((Str.ofString "Mixed"), (m_scc_Chain_bare_b4656 n 2))]
def BareAt (n : Nat) : Prop := ∀ (p : PT) (d : D) (h : MH) (ρ : Slots), Pat h p d → p.dep ≤ n → p.sz ≤ 10000 → Sat (methK (Str.ofString "bare") (tabB n) mNil ρ d h) (fun y h' => h <+: h' ∧ y = .bl p.bare) noX
theorem k_bares {n : Nat} (ih : BareAt n) {l : List PT} {es : List D} {h : MH} (hp : Pats h l es) (hd : PT.deps l ≤ n) (hs : PT.szs l ≤ 10000) {Q : D → MH → Prop} (q : ∀ i h', Own h h' [(i, (l.map PT.bare).map .bl)] → Q (.ref i) h') {o0 : D} :
    Sat (lcGo yes (mgName 1) mYes (mMethI (Str.ofString "bare") (tabB n) (mVar 1) (mNil)) h.length [some o0, none] es (h ++ [.lst []])) Q noX := by
  have hlen := hp.len
  have hl2 := plen_szs l
  refine o_compS (σ := Unit) (fun _ => []) (fun k acc _ => acc = ((l.take k).map fun p => D.bl p.bare)) (s0 := ()) (Own.nil h) rfl (by omega) (fun _ _ _ _ _ => rfl) ?_ ?_
  · rintro i d acc _ c h' hd' ha hI ow
    obtain ⟨p, ep, hpp⟩ := hp.get hd'
    have hm := List.mem_of_getElem? ep
    refine ⟨_, rfl, ?_⟩
    dsimp only [wipeD, List.set]
    walk_at "go"
    refine (ih p d h' _ (hpp.mono ow.pre) (by have := pdeps_le.mp (Nat.le_refl _) p hm; omega) (by have := pszs_mem hm; omega)).mono ?_
    rintro y h2 ⟨p2, rfl⟩
    refine ⟨(), ow.ext p2, ?_⟩
    rw [hI, take_snP ep, List.map_append]
    rfl
  · rintro acc _ c h' ha hI ow
    rw [hlen, List.take_length] at hI
    subst hI
    refine q _ _ ?_
    rw [List.map_map]
    exact ow
theorem k_bare : ∀ n, BareAt n
  | 0 => fun p d h ρ hp hn _ => by have : 1 ≤ p.dep := by cases p <;> rw [PT.dep] <;> omega
                                   omega
  | n + 1 => fun p d h ρ hp hn hs => by
    cases p with
    | one x =>
      obtain ⟨i, rfl, e⟩ := hp
      refine w_methK e mkA (by walk_at "fk") ?_
      walk_at "go"
      walk_at "fn"
      exact ⟨List.prefix_rfl, rfl⟩
    | times p lo hi =>
      obtain ⟨i, e1, rfl, e, hp⟩ := hp
      refine w_methK e (by walk_at "mk") (by walk_at "fk") ?_
      walk_at "go"
      show Sat (m_Times_bare_b5c39 (m_scc_Chain_bare_b4656 n) [.ref i] h) _ _
      walk_at "fn"
      refine br_d (fun q => ?_) (fun q => ?_)
      · walk_at "go"
        exact ⟨List.prefix_rfl, by simp [PT.bare, q]⟩
      · walk_at "go"
        refine (k_bare n p e1 h _ hp (by rw [PT.dep] at hn; omega) (by rw [PT.sz] at hs; omega)).mono ?_
        rintro y h2 ⟨p2, rfl⟩
        exact ⟨p2, by simp [PT.bare, q]⟩
    | chain l =>
      obtain ⟨es, ⟨i, rfl, e⟩, hp⟩ := hp
      refine w_methK e (by walk_at "mk") (by walk_at "fk") ?_
      walk_at "go"
      show Sat (m_Chain_bare_23255 (m_scc_Chain_bare_b4656 n) [.ref i] h) _ _
      walk_at "fn"
      refine k_bares (k_bare n) hp (by rw [PT.dep] at hn; omega) (by rw [PT.sz] at hs; omega) fun j h' o => ?_
      walk_at "go"
      refine w_all (o.atL 0 rfl) ?_
      exact ⟨o.pre, by rw [PT.bare, bareA_all, List.all_map]; rfl⟩
    | choice l =>
      obtain ⟨es, ⟨i, rfl, e⟩, hp⟩ := hp
      refine w_methK e (by walk_at "mk") (by walk_at "fk") ?_
      walk_at "go"
      show Sat (m_Choice_bare_58e6c (m_scc_Chain_bare_b4656 n) [.ref i] h) _ _
      walk_at "fn"
      refine k_bares (k_bare n) hp (by rw [PT.dep] at hn; omega) (by rw [PT.sz] at hs; omega) fun j h' o => ?_
      walk_at "go"
      refine w_any (o.atL 0 rfl) ?_
      exact ⟨o.pre, by rw [PT.bare, bareO_any, List.any_map]; rfl⟩
    | mixed l =>
      obtain ⟨es, ⟨i, rfl, e⟩, hp⟩ := hp
      refine w_methK e (by walk_at "mk") (by walk_at "fk") ?_
      walk_at "go"
      show Sat (m_Mixed_bare_6b72e (m_scc_Chain_bare_b4656 n) [.ref i] h) _ _
      walk_at "fn"
      refine k_bares (k_bare n) hp (by rw [PT.dep] at hn; omega) (by rw [PT.sz] at hs; omega) fun j h' o => ?_
      walk_at "go"
      refine w_all (o.atL 0 rfl) ?_
      exact ⟨o.pre, by rw [PT.bare, bareA_all, List.all_map]; rfl⟩
/-! ### sizes of what is made -/
theorem solo_sz {f : List PT → PT} {l : List PT} (hf : (f l).sz ≤ 1 + PT.szs l) : (solo f l).sz ≤ 1 + PT.szs l := by
  unfold solo
  split
  · rw [PT.szs, PT.szs]; omega
  · exact hf
theorem solo_dep {f : List PT → PT} {l : List PT} (hf : (f l).dep ≤ 1 + PT.deps l) : (solo f l).dep ≤ 1 + PT.deps l := by
  unfold solo
  split
  · rw [PT.deps]; omega
  · exact hf
theorem onceA_szs : ∀ (l acc : List PT), PT.szs (onceA acc l) ≤ PT.szs acc + PT.szs l
  | [], acc => by rw [onceA]; omega
  | p :: l, acc => by
    rw [onceA, PT.szs]
    split
    · have := onceA_szs l acc; omega
    · have := onceA_szs l (acc ++ [p]); rw [pszs_app, PT.szs, PT.szs] at this; omega
theorem flat_deps {f : PT → List PT} {l : List PT} (hf : ∀ p, ∀ q ∈ f p, q.dep ≤ p.dep) : PT.deps (l.flatMap f) ≤ PT.deps l := by
  refine pdeps_le.mpr fun q hq => ?_
  obtain ⟨p, hp, hq⟩ := List.mem_flatMap.mp hq
  exact Nat.le_trans (hf p q hq) (pdeps_le.mp (Nat.le_refl _) p hp)
theorem opC_dep (p : PT) : ∀ q ∈ opC p, q.dep ≤ p.dep := by
  cases p with
  | chain l => intro q hq; have := pdeps_le.mp (Nat.le_refl (PT.deps l)) q hq; rw [PT.dep]; omega
  | _ => intro q hq; rw [List.mem_singleton.mp hq]; exact Nat.le_refl _
theorem opO_dep (p : PT) : ∀ q ∈ opO p, q.dep ≤ p.dep := by
  cases p with
  | choice l => intro q hq; have := pdeps_le.mp (Nat.le_refl (PT.deps l)) q hq; rw [PT.dep]; omega
  | _ => intro q hq; rw [List.mem_singleton.mp hq]; exact Nat.le_refl _
theorem opM_dep (p : PT) : ∀ q ∈ opM p, q.dep ≤ p.dep := by
  cases p with
  | mixed l => intro q hq; have := pdeps_le.mp (Nat.le_refl (PT.deps l)) q hq; rw [PT.dep]; omega
  | _ =>
    intro q hq
    unfold opM at hq
    simp only at hq
    split at hq
    · simp at hq
    · rw [List.mem_singleton.mp hq]; exact Nat.le_refl _
theorem mkC_sz (l : List PT) : (mkC l).sz ≤ 1 + PT.szs l := by
  have h1 : (mkC l).sz ≤ 1 + PT.szs (l.flatMap opC) := solo_sz (by rw [PT.sz]; exact Nat.le_refl _)
  have h2 := szs_flat opC_sz l
  omega
theorem mkO_sz (l : List PT) : (mkO l).sz ≤ 1 + PT.szs l := by
  have h1 : (mkO l).sz ≤ 1 + PT.szs (onceA [] (l.flatMap opO)) := solo_sz (by rw [PT.sz]; exact Nat.le_refl _)
  have h2 := szs_flat opO_sz l
  have h3 := onceA_szs (l.flatMap opO) []
  rw [PT.szs] at h3
  omega
theorem mkM_sz (l : List PT) : (mkM l).sz ≤ 1 + PT.szs l := by
  have h1 : (mkM l).sz ≤ 1 + PT.szs (l.flatMap opM) := solo_sz (by
    unfold mixN
    split
    · rw [PT.sz, PT.szs]; omega
    · rw [PT.sz]; exact Nat.le_refl _)
  have h2 := szs_flat opM_sz l
  omega
theorem mkC_dep (l : List PT) : (mkC l).dep ≤ 1 + PT.deps l := by
  have h1 : (mkC l).dep ≤ 1 + PT.deps (l.flatMap opC) := solo_dep (by rw [PT.dep]; exact Nat.le_refl _)
  have h2 := flat_deps (l := l) opC_dep
  omega
theorem mkO_dep (l : List PT) : (mkO l).dep ≤ 1 + PT.deps l := by
  have h1 : (mkO l).dep ≤ 1 + PT.deps (onceA [] (l.flatMap opO)) := solo_dep (by rw [PT.dep]; exact Nat.le_refl _)
  have h2 := flat_deps (l := l) opO_dep
  have h3 : PT.deps (onceA [] (l.flatMap opO)) ≤ PT.deps (l.flatMap opO) := pdeps_le.mpr fun q hq => by
    rcases onceA_mem hq with z | z
    · simp at z
    · exact pdeps_le.mp (Nat.le_refl _) q z
  omega
theorem mkM_dep (l : List PT) : (mkM l).dep ≤ 1 + PT.deps l := by
  have h1 : (mkM l).dep ≤ 1 + PT.deps (l.flatMap opM) := solo_dep (by
    unfold mixN
    split
    · rw [PT.dep, PT.deps]; omega
    · rw [PT.dep]; exact Nat.le_refl _)
  have h2 := flat_deps (l := l) opM_dep
  omega
theorem mkT_sz (p : PT) (lo : Int) (hi : Option Int) : (mkT p lo hi).sz ≤ 1 + p.sz := by
  unfold mkT
  split
  · rw [PT.sz, PT.szs]; omega
  · split
    · omega
    · rw [PT.sz]; exact Nat.le_refl _
theorem mkT_dep (p : PT) (lo : Int) (hi : Option Int) : (mkT p lo hi).dep ≤ 1 + p.dep := by
  unfold mkT
  split
  · rw [PT.dep, PT.deps]; omega
  · split
    · omega
    · rw [PT.dep]; exact Nat.le_refl _
mutual
theorem made_sz : ∀ p : PT, p.made.sz ≤ p.sz ∧ p.made.dep ≤ p.dep
  | .one x => ⟨Nat.le_refl _, Nat.le_refl _⟩
  | .times p lo hi => by
    have h1 := made_sz p
    have h2 := mkT_sz p.made lo hi
    have h3 := mkT_dep p.made lo hi
    rw [PT.made, PT.sz, PT.dep]; omega
  | .chain l => by
    have h1 := mades_sz l
    have h2 := mkC_sz (PT.mades l)
    have h3 := mkC_dep (PT.mades l)
    rw [PT.made, PT.sz, PT.dep]; omega
  | .choice l => by
    have h1 := mades_sz l
    have h2 := mkO_sz (PT.mades l)
    have h3 := mkO_dep (PT.mades l)
    rw [PT.made, PT.sz, PT.dep]; omega
  | .mixed l => by
    have h1 := mades_sz l
    have h2 := mkM_sz (PT.mades l)
    have h3 := mkM_dep (PT.mades l)
    rw [PT.made, PT.sz, PT.dep]; omega
theorem mades_sz : ∀ l : List PT, PT.szs (PT.mades l) ≤ PT.szs l ∧ PT.deps (PT.mades l) ≤ PT.deps l
  | [] => ⟨Nat.le_refl _, Nat.le_refl _⟩
  | p :: l => by
    have h1 := made_sz p
    have h2 := mades_sz l
    rw [PT.mades, PT.szs, PT.szs, PT.deps, PT.deps]
    omega
end
theorem made_fit {p : PT} (h : Fit p) : Fit p.made := ⟨made_ok p h.ok, Nat.le_trans (made_sz p).2 h.dep, Nat.le_trans (made_sz p).1 h.sz⟩
theorem fit_kid {p : PT} {l : List PT} (hok : PT.oks l) (hd : 1 + PT.deps l ≤ 18) (hs : 1 + PT.szs l ≤ 10000) (hm : p ∈ l) : Fit p :=
  ⟨oks_iff.mp hok p hm, by have := pdeps_le.mp (Nat.le_refl (PT.deps l)) p hm; omega, by have := pszs_mem hm; omega⟩
/-! ### comprehensions whose parts are laid in the heap -/
/-- what stands stands on, but for the list at c -/
def Sv (c : Nat) (h1 h2 : MH) : Prop := (∃ l, h1[c]? = some (.lst l)) ∧ ∀ (j : Nat) (o : MO), j ≠ c → h1[j]? = some o → h2[j]? = some o
theorem o_compM {h0 h : MH} {L : LL} {Q : D → MH → Prop} {E : XE} {gd : MH → Bool} {tg : MG} {te : ME} {ρ : Slots} (P : Nat → D → MH → Prop) {items : List D} (o : Own h0 h L) (hl : items.length ≤ 1000000)
    (hg : ∀ h', h <+: h' → gd h' = true) (hm : ∀ i y h1 h2, Sv h.length h1 h2 → P i y h1 → P i y h2)
    (hs : ∀ i d h', items[i]? = some d → h <+: h' → h.length < h'.length → ∃ ρ1, tg d ρ = some ρ1 ∧ Sat (te ρ1 h') (fun y h2 => h' <+: h2 ∧ P i y h2) noX)
    (hn : ∀ ys h', ys.length = items.length → (∀ (k : Nat) y, ys[k]? = some y → P k y h') → Own h0 h' ((h.length, ys) :: L) → Q (.ref h.length) h') : Sat (lcGo gd tg mYes te h.length ρ items (h ++ [.lst []])) Q E := by
  refine w_comp (fun k acc h' => acc.length = k ∧ Own h h' [(h.length, acc)] ∧ ∀ (i : Nat) y, acc[i]? = some y → P i y h') (k := 0) ⟨rfl, (Own.nil h).alloc [], fun i y e => by simp at e⟩ (by simp) (by simpa using hl) (fun i acc h' hi => hg _ hi.2.1.pre) ?_ ?_
  · rintro i d acc h' hd ⟨ha, ow, hp⟩ hc
    rw [Nat.zero_add] at ha ⊢
    obtain ⟨ρ1, e1, s⟩ := hs i d h' hd ow.pre (List.getElem?_eq_some_iff.mp hc).1
    refine ⟨ρ1, e1, true, _, rfl, (fun z => Bool.noConfusion z), fun _ => s.mono ?_⟩
    rintro y h2 ⟨p2, hy⟩
    have o2 := ow.ext p2
    have hc2 := o2.at 0 rfl
    have sv0 : Sv h.length h' h2 := ⟨⟨acc, hc⟩, fun j o _ e => pre_get p2 e⟩
    have sv : Sv h.length h2 (h2.set h.length (.lst (acc ++ [y]))) := ⟨⟨acc, hc2⟩, fun j o hj e => by rw [List.getElem?_set_ne (Ne.symm hj)]; exact e⟩
    refine ⟨hc2, by simp [ha], o2.setAt 0 rfl _, fun j z hz => ?_⟩
    rcases Nat.lt_or_ge j acc.length with q | q
    · rw [List.getElem?_append_left q] at hz
      exact hm _ _ _ _ sv (hm _ _ _ _ sv0 (hp j z hz))
    · rw [List.getElem?_append_right q] at hz
      have : j - acc.length = 0 := by
        have := (List.getElem?_eq_some_iff.mp hz).1
        simp at this; omega
      rw [this] at hz
      simp at hz
      subst hz
      have : j = i := by omega
      subst this
      exact hm _ _ _ _ sv hy
  · rintro acc h' ⟨ha, ow, hp⟩ hc
    rw [Nat.zero_add] at ha
    exact hn acc h' ha hp (o.trans ow)
mutual
theorem Pat.kin {h h' : MH} (pr : ∀ (i : Nat) (c : Str) (fs : List (Str × D)), h[i]? = some (MO.ins c fs) → h'[i]? = some (MO.ins c fs)) : ∀ (p : PT) (d : D), Pat h p d → Pat h' p d
  | .one x, d, ⟨i, e1, e2⟩ => ⟨i, e1, pr _ _ _ e2⟩
  | .times p lo hi, d, ⟨i, e, e1, e2, e3⟩ => ⟨i, e, e1, pr _ _ _ e2, Pat.kin pr p e e3⟩
  | .chain l, d, ⟨es, ⟨i, e0, e1⟩, e2⟩ => ⟨es, ⟨i, e0, pr _ _ _ e1⟩, Pats.kin pr l es e2⟩
  | .choice l, d, ⟨es, ⟨i, e0, e1⟩, e2⟩ => ⟨es, ⟨i, e0, pr _ _ _ e1⟩, Pats.kin pr l es e2⟩
  | .mixed l, d, ⟨es, ⟨i, e0, e1⟩, e2⟩ => ⟨es, ⟨i, e0, pr _ _ _ e1⟩, Pats.kin pr l es e2⟩
theorem Pats.kin {h h' : MH} (pr : ∀ (i : Nat) (c : Str) (fs : List (Str × D)), h[i]? = some (MO.ins c fs) → h'[i]? = some (MO.ins c fs)) : ∀ (l : List PT) (es : List D), Pats h l es → Pats h' l es
  | [], _, e => e
  | p :: l, _, ⟨d, ds, e, h1, h2⟩ => ⟨d, ds, e, Pat.kin pr p d h1, Pats.kin pr l ds h2⟩
end
theorem Sv.kin {c : Nat} {h h' : MH} (s : Sv c h h') : ∀ (i : Nat) (k : Str) (fs : List (Str × D)), h[i]? = some (MO.ins k fs) → h'[i]? = some (MO.ins k fs) := fun i k fs e => by
  obtain ⟨⟨l, hl⟩, s⟩ := s
  refine s i _ ?_ e
  rintro rfl
  rw [e] at hl
  cases hl
theorem Pat.sv {c : Nat} {h h' : MH} {p : PT} {d : D} (s : Sv c h h') (x : Pat h p d) : Pat h' p d := Pat.kin s.kin p d x
theorem Pats.of {h : MH} {f : PT → PT} : ∀ {l : List PT} {ys : List D}, ys.length = l.length → (∀ (k : Nat) y, ys[k]? = some y → ∃ p, l[k]? = some p ∧ Pat h (f p) y) → Pats h (l.map f) ys
  | [], [], _, _ => rfl
  | [], _ :: _, e, _ => by simp at e
  | _ :: _, [], e, _ => by simp at e
  | p :: l, y :: ys, e, g => by
    obtain ⟨q, e1, e2⟩ := g 0 y rfl
    simp at e1
    subst e1
    exact ⟨y, ys, rfl, e2, Pats.of (by simpa using e) fun k z hz => by simpa using g (k + 1) z (by simpa using hz)⟩
/-! ### the pattern of what is told -/
theorem neS (s t : String) (h : (Str.ofString s == Str.ofString t) = false := by decide +kernel) : ¬ Str.ofString s = Str.ofString t := fun z => by rw [z] at h; simp at h
theorem hi_neg {lo : Int} {hi : Option Int} (hl : 0 ≤ lo) (h : ∀ k, hi = some k → lo ≤ k ∧ k ≤ 9) : (hi.getD (-1) < 0 ∧ hi = none) ∨ (¬ hi.getD (-1) < 0 ∧ ∃ k, hi = some k ∧ hi.getD (-1) = k) := by
  cases hi with
  | none => exact .inl ⟨by simp, rfl⟩
  | some k => have := h k rfl; exact .inr ⟨by simp; omega, k, rfl, rfl⟩
theorem k_pof : ∀ (n : Nat) (p : PT) (h : MH), Fit p → p.dep ≤ n → Sat (m_pattern_of_0fd47 n [p.tD] h) (fun y h' => h <+: h' ∧ Pat h' p.made y) noX
  | 0, p, h, _, hn => by have : 1 ≤ p.dep := by cases p <;> rw [PT.dep] <;> omega
                         omega
  | n + 1, .one x, h, hf, hn => by
    rw [PT.tD]
    unfold m_pattern_of_0fd47
    walk_at "fn"
    refine k_one.mono ?_
    rintro y h2 ⟨p2, x2⟩
    exact ⟨p2, x2⟩
  | n + 1, .times p lo hi, h, hf, hn => by
    have n1 := neOne "times"
    have hp : Fit p := ⟨hf.ok.1, by have := hf.dep; rw [PT.dep] at this; omega, by have := hf.sz; rw [PT.sz] at this; omega⟩
    have hd : p.dep ≤ n := by rw [PT.dep] at hn; omega
    have ih : ∀ h, Sat (m_pattern_of_0fd47 n [p.tD] h) (fun y h' => h <+: h' ∧ Pat h' p.made y) noX := fun h => k_pof n p h hp hd
    rw [PT.tD]
    rcases hi_neg hf.ok.2.1.1 hf.ok.2.2 with ⟨c, rfl⟩ | ⟨c, k, rfl, e⟩
    · unfold m_pattern_of_0fd47
      walk_at "fn"
      refine (ih h).mono ?_
      rintro y h2 ⟨p2, x2⟩
      walk_at "go"
      refine (k_times (hi := none) x2 hf.ok.2.1 hf.ok.2.2).mono ?_
      rintro y h3 ⟨p3, x3⟩
      exact ⟨p2.trans p3, x3⟩
    · unfold m_pattern_of_0fd47
      walk_at "fn"
      refine (ih h).mono ?_
      rintro y h2 ⟨p2, x2⟩
      walk_at "go"
      refine (k_times (hi := some k) x2 hf.ok.2.1 hf.ok.2.2).mono ?_
      rintro y h3 ⟨p3, x3⟩
      exact ⟨p2.trans p3, x3⟩
  | n + 1, .chain l, h, hf, hn => by
    have n1 := neOne "chain"
    have n2 := neTimes "chain"
    have hfd := hf.dep
    have hfs := hf.sz
    rw [PT.dep] at hfd hn
    rw [PT.sz] at hfs
    have hkid := fun p (hm : p ∈ l) => fit_kid (hf.ok : PT.oks l) hfd hfs hm
    have hlen := plen_szs l
    have hmz := mades_sz l
    have hmf : ∀ p ∈ PT.mades l, Fit p := fun p hp => by
      rw [mades_eq] at hp
      obtain ⟨q, hq, rfl⟩ := List.mem_map.mp hp
      exact made_fit (hkid q hq)
    rw [PT.tD]
    unfold m_pattern_of_0fd47
    walk_at "fn"
    refine o_compM (fun k y h' => ∃ p, l[k]? = some p ∧ Pat h' p.made y) (Own.nil h) (by rw [tDs_eq, List.length_map]; omega) (fun _ _ => rfl) (fun i y h1 h2 sv ⟨p, e1, e2⟩ => ⟨p, e1, e2.sv sv⟩) ?_ ?_
    · rintro k d h' hd pr _
      rw [tDs_eq, List.getElem?_map, Option.map_eq_some_iff] at hd
      obtain ⟨p, ep, rfl⟩ := hd
      have hm := List.mem_of_getElem? ep
      refine ⟨_, rfl, ?_⟩
      dsimp only [wipeD, List.set]
      walk_at "go"
      refine (k_pof n p h' (hkid p hm) (by have := pdeps_le.mp (Nat.le_refl (PT.deps l)) p hm; omega)).mono ?_
      rintro y h2 ⟨p2, x2⟩
      exact ⟨p2, p, ep, x2⟩
    · rintro ys h' hy hp ow
      have hpp : Pats h' (PT.mades l) ys := by
        rw [mades_eq]
        exact Pats.of (by rw [hy, tDs_eq, List.length_map]) hp
      walk_at "go"
      refine (k_chain (ow.atL 0 rfl) hpp (by omega)).mono ?_
      rintro y h3 ⟨p3, x3⟩
      exact ⟨ow.pre.trans p3, by rw [PT.made]; exact x3⟩
  | n + 1, .choice l, h, hf, hn => by
    have n1 := neOne "choice"
    have n2 := neTimes "choice"
    have n3 := neS "choice" "chain"
    have hfd := hf.dep
    have hfs := hf.sz
    rw [PT.dep] at hfd hn
    rw [PT.sz] at hfs
    have hkid := fun p (hm : p ∈ l) => fit_kid (hf.ok : PT.oks l) hfd hfs hm
    have hlen := plen_szs l
    have hmz := mades_sz l
    have hmf : ∀ p ∈ PT.mades l, Fit p := fun p hp => by
      rw [mades_eq] at hp
      obtain ⟨q, hq, rfl⟩ := List.mem_map.mp hp
      exact made_fit (hkid q hq)
    rw [PT.tD]
    unfold m_pattern_of_0fd47
    walk_at "fn"
    refine o_compM (fun k y h' => ∃ p, l[k]? = some p ∧ Pat h' p.made y) (Own.nil h) (by rw [tDs_eq, List.length_map]; omega) (fun _ _ => rfl) (fun i y h1 h2 sv ⟨p, e1, e2⟩ => ⟨p, e1, e2.sv sv⟩) ?_ ?_
    · rintro k d h' hd pr _
      rw [tDs_eq, List.getElem?_map, Option.map_eq_some_iff] at hd
      obtain ⟨p, ep, rfl⟩ := hd
      have hm := List.mem_of_getElem? ep
      refine ⟨_, rfl, ?_⟩
      dsimp only [wipeD, List.set]
      walk_at "go"
      refine (k_pof n p h' (hkid p hm) (by have := pdeps_le.mp (Nat.le_refl (PT.deps l)) p hm; omega)).mono ?_
      rintro y h2 ⟨p2, x2⟩
      exact ⟨p2, p, ep, x2⟩
    · rintro ys h' hy hp ow
      have hpp : Pats h' (PT.mades l) ys := by
        rw [mades_eq]
        exact Pats.of (by rw [hy, tDs_eq, List.length_map]) hp
      walk_at "go"
      refine (k_choice (ow.atL 0 rfl) hpp hmf (by omega)).mono ?_
      rintro y h3 ⟨p3, x3⟩
      exact ⟨ow.pre.trans p3, by rw [PT.made]; exact x3⟩
  | n + 1, .mixed l, h, hf, hn => by
    have n1 := neOne "mixed"
    have n2 := neTimes "mixed"
    have n3 := neS "mixed" "chain"
    have n4 := neS "mixed" "choice"
    have hfd := hf.dep
    have hfs := hf.sz
    rw [PT.dep] at hfd hn
    rw [PT.sz] at hfs
    have hkid := fun p (hm : p ∈ l) => fit_kid (hf.ok : PT.oks l) hfd hfs hm
    have hlen := plen_szs l
    have hmz := mades_sz l
    have hmf : ∀ p ∈ PT.mades l, Fit p := fun p hp => by
      rw [mades_eq] at hp
      obtain ⟨q, hq, rfl⟩ := List.mem_map.mp hp
      exact made_fit (hkid q hq)
    rw [PT.tD]
    unfold m_pattern_of_0fd47
    walk_at "fn"
    refine o_compM (fun k y h' => ∃ p, l[k]? = some p ∧ Pat h' p.made y) (Own.nil h) (by rw [tDs_eq, List.length_map]; omega) (fun _ _ => rfl) (fun i y h1 h2 sv ⟨p, e1, e2⟩ => ⟨p, e1, e2.sv sv⟩) ?_ ?_
    · rintro k d h' hd pr _
      rw [tDs_eq, List.getElem?_map, Option.map_eq_some_iff] at hd
      obtain ⟨p, ep, rfl⟩ := hd
      have hm := List.mem_of_getElem? ep
      refine ⟨_, rfl, ?_⟩
      dsimp only [wipeD, List.set]
      walk_at "go"
      refine (k_pof n p h' (hkid p hm) (by have := pdeps_le.mp (Nat.le_refl (PT.deps l)) p hm; omega)).mono ?_
      rintro y h2 ⟨p2, x2⟩
      exact ⟨p2, p, ep, x2⟩
    · rintro ys h' hy hp ow
      have hpp : Pats h' (PT.mades l) ys := by
        rw [mades_eq]
        exact Pats.of (by rw [hy, tDs_eq, List.length_map]) hp
      walk_at "go"
      refine (k_mixed (ow.atL 0 rfl) hpp (by omega)).mono ?_
      rintro y h3 ⟨p3, x3⟩
      exact ⟨ow.pre.trans p3, by rw [PT.made]; exact x3⟩
end Mi

namespace Mi
open PySem L2
def m_free_docs_275c6 : List D → MH → R D := mFun 2 9
 (mSeq (mAsg 2 (mBin dMod (mBin dIx (mVar 0) (mC (.int 0))) (mC (.int 4))))
 (mSeq (mAsg 3 (mLc (mIter (mVar 0)) (mgName 4) (mYes) (mLst (mNil)) [4]))
 (mSeq (mFor (mRange2 (mC (.int 1)) (mCall dLen (mCons (mVar 0) (mNil)))) (mgName 4)
 (mSeq (mAsg 6 (mBin dFdiv (mBin dMod (mBin dMul (mBin dIx (mVar 0) (mVar 4)) (mC (.int 16807))) (mC (.int 2147483629))) (mC (.int 5))))
 (mSeq (mAsg 7 (mBin dIx (mLst (mCons (mBin dMod (mVar 6) (mVar 4)) (mCons (mBin dSub (mVar 4) (mC (.int 1))) (mCons (mC (.int 0)) (mCons (mBin dSub (mBin dSub (mVar 4) (mC (.int 1))) (mBin dMod (mVar 6) (mCall dMin (mCons (mVar 4) (mCons (mC (.int 3)) (mNil)))))) (mNil)))))) (mVar 2)))
 (mDrop (mMeth isListD dAppend (mBin dIx (mVar 3) (mVar 7)) (mCons (mVar 4) (mNil)))))))
 (mSeq (mAsg 5 (mLc (mIter (mVar 0)) (mgName 4) (mYes) (mC .non) [4]))
 (mSeq (mFor (mRev1 (mCall dLen (mCons (mVar 0) (mNil)))) (mgName 4)
 (mSetIx (mVar 5) (mVar 4) (mTup (mCons (mBin dIx (mVar 1) (mBin dMod (mBin dFdiv (mBin dIx (mVar 0) (mVar 4)) (mC (.int 4))) (mC (.int 9)))) (mCons (mCall dTuple (mCons (mLc (mIter (mBin dIx (mVar 3) (mVar 4))) (mgName 8) (mYes) (mBin dIx (mVar 5) (mVar 8)) [8]) (mNil))) (mNil))))))
 (mRet (mTup (mCons (mVar 5) (mCons (mVar 3) (mNil))))))))))
def m_whole_52a26 : List D → MH → R D := mFun 2 2
 (mRet (mAndV (mIsi "int" (mVar 0)) (mAndV (mNotV (mIsi "bool" (mVar 0))) (mBin dEq (mVar 0) (mVar 1)))))
def m_state_c46f4 : List D → MH → R D := mFun 3 5
 (mSeq (mAsg 3 (mBin dIx (mBin dIx (mVar 0) (mC (.int 2))) (mUn dNeg (mC (.int 1)))))
 (mSeq (mIf (mB (mBin dIn (mVar 1) (mBin dIx (mVar 0) (mC (.int 1)))))
 (mAsg 3 (mBin dIx (mBin dIx (mVar 0) (mC (.int 2))) (mTIndex (mBin dIx (mVar 0) (mC (.int 1))) (mVar 1))))
 (mSkip))
 (mSeq (mFor (mIter (mVar 2)) (mgName 4)
 (mAsg 3 (mBin dIx (mBin dIx (mBin dIx (mVar 0) (mC (.int 3))) (mVar 3)) (mVar 4))))
 (mRet (mVar 3)))))
def m_start_of_78275 : List D → MH → R D := mFun 2 2
 (mSeq (mIf (mB (mBin dIn (mVar 1) (mBin dIx (mVar 0) (mC (.int 1)))))
 (mRet (mBin dIx (mBin dIx (mVar 0) (mC (.int 2))) (mTIndex (mBin dIx (mVar 0) (mC (.int 1))) (mVar 1))))
 (mSkip))
 (mRet (mBin dIx (mBin dIx (mVar 0) (mC (.int 2))) (mUn dNeg (mC (.int 1))))))
def m_state_of_14fdf : Nat → List D → MH → R D
 | 0 => fun _ _ => .bad
 | n + 1 => mFun 2 4
    (mSeq (mAsg 2 (mCall (m_start_of_78275) (mCons (mVar 0) (mCons (mBin dIx (mVar 1) (mC (.int 0))) (mNil)))))
     (mSeq (mFor (mIter (mBin dIx (mVar 1) (mC (.int 1)))) (mgName 3)
     (mAsg 2 (mBin dIx (mBin dIx (mBin dIx (mVar 0) (mC (.int 3))) (mVar 2)) (mCall (m_state_of_14fdf n) (mCons (mVar 0) (mCons (mVar 3) (mNil)))))))
     (mRet (mVar 2))))
def m_law_5f09b : List D → MH → R D := mFun 1 10
 (mSeq (mAsg 1 (mCall (m_names_c11ae) (mCons (mCall (m_cell_at_2c4cb) (mCons (mVar 0) (mCons (mC (.int 0)) (mNil)))) (mNil))))
 (mSeq (mAsg 2 (mCall (m_machine_8b383) (mCons (mVar 0) (mCons (mC (.int 1)) (mCons (mVar 1) (mCons (mC (.int 8)) (mNil)))))))
 (mSeq (mAsg 3 (mLc (mRange1 (mCall dMax (mCons (mC (.int 1)) (mCons (mCall dMin (mCons (mC (.int 50)) (mCons (mBin dSub (mCall dLen (mCons (mVar 0) (mNil))) (mC (.int 5))) (mNil)))) (mNil))))) (mgName 5) (mYes) (mCall (m_cell_at_2c4cb) (mCons (mVar 0) (mCons (mBin dAdd (mC (.int 5)) (mVar 5)) (mNil)))) [5]))
 (mSeq (mAsgT (mgTup (mgCons (mgName 6) (mgCons (mgName 7) (mgNil)))) (mCall (m_free_docs_275c6) (mCons (mVar 3) (mCons (mVar 1) (mNil)))))
 (mSeq (mAsg 4 (mLc (mIter (mVar 6)) (mgName 8) (mYes) (mC (.int 0)) [8]))
 (mSeq (mFor (mRev1 (mCall dLen (mCons (mVar 6) (mNil)))) (mgName 5)
 (mSetIx (mVar 4) (mVar 5) (mCall (m_state_c46f4) (mCons (mVar 2) (mCons (mBin dIx (mBin dIx (mVar 6) (mVar 5)) (mC (.int 0))) (mCons (mLc (mIter (mBin dIx (mVar 7) (mVar 5))) (mgName 9) (mYes) (mBin dIx (mVar 4) (mVar 9)) [9]) (mNil)))))))
 (mSeq (mFor (mRange1 (mCall dLen (mCons (mVar 6) (mNil)))) (mgName 5)
 (mIf (mNot (mB (mCall (m_whole_52a26) (mCons (mCall (m_state_of_14fdf 100) (mCons (mVar 2) (mCons (mBin dIx (mVar 6) (mVar 5)) (mNil)))) (mCons (mBin dIx (mVar 4) (mVar 5)) (mNil))))))
 (mRet (mC (.bl false)))
 (mSkip)))
 (mRet (mCall (m_whole_52a26) (mCons (mCall (m_state_of_14fdf 100) (mCons (mVar 2) (mCons (mBin dIx (mVar 6) (mC (.int 0))) (mNil)))) (mCons (mBin dIx (mVar 4) (mC (.int 0))) (mNil))))))))))))
end Mi

namespace Mi
open PySem L2
def m_items_b2406 : Nat → List D → MH → R D
 | 0 => fun _ _ => .bad
 | n + 1 => mFun 3 6
    (mSeq (mAsg 3 (mLst (mNil)))
     (mSeq (mFor (mRange1 (mCall (m_next_fea17) (mCons (mVar 0) (mCons (mC (.int 4)) (mNil))))) (mgName 4)
     (mIf (mB (mBin dEq (mCall (m_next_fea17) (mCons (mVar 0) (mCons (mC (.int 3)) (mNil)))) (mC (.int 0))))
     (mDrop (mMeth isListD dAppend (mVar 3) (mCons (mC (.str (Str.ofString "*"))) (mNil))))
     (mIf (mB (mBin dEq (mVar 1) (mC (.int 0))))
     (mDrop (mMeth isListD dAppend (mVar 3) (mCons (mTup (mCons (mBin dIx (mVar 2) (mCall (m_next_fea17) (mCons (mVar 0) (mCons (mC (.int 9)) (mNil))))) (mCons (mTup (mNil)) (mNil)))) (mNil))))
     (mSeq (mAsg 5 (mBin dIx (mVar 2) (mCall (m_next_fea17) (mCons (mVar 0) (mCons (mC (.int 9)) (mNil))))))
     (mDrop (mMeth isListD dAppend (mVar 3) (mCons (mTup (mCons (mVar 5) (mCons (mCall (m_items_b2406 n) (mCons (mVar 0) (mCons (mBin dSub (mVar 1) (mC (.int 1))) (mCons (mVar 2) (mNil))))) (mNil)))) (mNil))))))))
     (mRet (mCall dTuple (mCons (mVar 3) (mNil))))))
def m_turner_aa784 : List D → MH → R D := mFun 5 10
 (mSeq (mAsg 5 (mCall (m_cell_at_2c4cb) (mCons (mVar 0) (mCons (mVar 1) (mNil)))))
 (mSeq (mAsg 6 (mLst (mNil)))
 (mSeq (mFor (mRange1 (mBin dMod (mVar 5) (mBin dAdd (mVar 2) (mC (.int 1))))) (mgName 7)
 (mSeq (mAsg 8 (mCall (m_tape_92891) (mCons (mCall (m_cell_at_2c4cb) (mCons (mVar 0) (mCons (mBin dAdd (mBin dAdd (mVar 1) (mC (.int 1))) (mVar 7)) (mNil)))) (mCons (mC (.int 120)) (mNil)))))
 (mSeq (mAsg 9 (mCall (m_next_fea17) (mCons (mVar 8) (mCons (mVar 4) (mNil)))))
 (mDrop (mMeth isListD dAppend (mVar 6) (mCons (mTup (mCons (mBin dIx (mVar 3) (mBin dMod (mBin dAdd (mBin dFdiv (mVar 5) (mC (.int 16))) (mBin dMul (mC (.int 2)) (mVar 7))) (mC (.int 9)))) (mCons (mCall (m_items_b2406 100) (mCons (mVar 8) (mCons (mVar 9) (mCons (mVar 3) (mNil))))) (mNil)))) (mNil)))))))
 (mRet (mCall dTuple (mCons (mVar 6) (mNil)))))))
def m_deepened_b2bfe : List D → MH → R D := mFun 4 7
 (mSeq (mAsg 4 (mCall (m_tape_92891) (mCons (mVar 1) (mCons (mC (.int 20)) (mNil)))))
 (mSeq (mIf (mOr (mB (mBin dGt (mCall (m_next_fea17) (mCons (mVar 4) (mCons (mC (.int 3)) (mNil)))) (mC (.int 0)))) (mB (mBin dEq (mCall dLen (mCons (mVar 0) (mNil))) (mC (.int 0)))))
 (mRet (mVar 0))
 (mSkip))
 (mSeq (mAsg 5 (mTup (mCons (mC (.str (Str.ofString "*"))) (mNil))))
 (mSeq (mFor (mRange1 (mCall (m_next_fea17) (mCons (mVar 4) (mCons (mBin dAdd (mVar 3) (mC (.int 1))) (mNil))))) (mgName 6)
 (mSeq (mAsg 5 (mTup (mCons (mTup (mCons (mBin dIx (mVar 2) (mCall (m_next_fea17) (mCons (mVar 4) (mCons (mC (.int 9)) (mNil))))) (mCons (mVar 5) (mNil)))) (mNil))))
 (mIf (mB (mBin dEq (mCall (m_next_fea17) (mCons (mVar 4) (mCons (mC (.int 4)) (mNil)))) (mC (.int 0))))
 (mAsg 5 (mBin dAdd (mVar 5) (mTup (mCons (mC (.str (Str.ofString "*"))) (mNil)))))
 (mSkip))))
 (mRet (mBin dAdd (mTup (mCons (mTup (mCons (mBin dIx (mBin dIx (mVar 0) (mC (.int 0))) (mC (.int 0))) (mCons (mVar 5) (mNil)))) (mNil))) (mSl (mVar 0) (mSome (mC (.int 1))) (mNo))))))))
def m_for_39fc1 : List D → MH → R D := mFun 2 3
 (mSeq (mFor (mIter (mVar 0)) (mgName 2)
 (mIf (mB (mBin dEq (mBin dIx (mVar 2) (mC (.int 0))) (mVar 1)))
 (mRet (mBin dIx (mVar 2) (mC (.int 1))))
 (mSkip)))
 (mRet (mTup (mCons (mVar 1) (mNil)))))
def m_size_05894 : Nat → List D → MH → R D
 | 0 => fun _ _ => .bad
 | n + 1 => mFun 2 4
    (mSeq (mAsg 2 (mC (.int 0)))
     (mSeq (mFor (mIter (mVar 0)) (mgName 3)
     (mIf (mB (mBin dEq (mVar 3) (mC (.str (Str.ofString "*")))))
     (mAsg 2 (mBin dAdd (mVar 2) (mVar 1)))
     (mAsg 2 (mBin dAdd (mBin dAdd (mVar 2) (mC (.int 1))) (mCall (m_size_05894 n) (mCons (mBin dIx (mVar 3) (mC (.int 1))) (mCons (mVar 1) (mNil))))))))
     (mRet (mVar 2))))
def m_sizes_d73ec : List D → MH → R D := mFun 3 9
 (mSeq (mAsg 3 (mLc (mIter (mVar 1)) (mgName 7) (mYes) (mC (.int 0)) [7]))
 (mSeq (mFor (mRev1 (mCall dLen (mCons (mVar 1) (mNil)))) (mgName 4)
 (mSeq (mAsg 5 (mCall dSum (mCons (mLc (mIter (mBin dIx (mVar 2) (mVar 4))) (mgName 8) (mYes) (mBin dIx (mVar 3) (mVar 8)) [8]) (mNil))))
 (mSeq (mAsg 6 (mCall (m_for_39fc1) (mCons (mVar 0) (mCons (mBin dIx (mBin dIx (mVar 1) (mVar 4)) (mC (.int 0))) (mNil)))))
 (mIf (mB (mBin dEq (mVar 6) (mTup (mCons (mBin dIx (mBin dIx (mVar 1) (mVar 4)) (mC (.int 0))) (mNil)))))
 (mSetIx (mVar 3) (mVar 4) (mBin dAdd (mC (.int 1)) (mVar 5)))
 (mSetIx (mVar 3) (mVar 4) (mCall (m_size_05894 100) (mCons (mVar 6) (mCons (mVar 5) (mNil)))))))))
 (mRet (mVar 3))))
def m_full_cf168 : Nat → List D → MH → R D
 | 0 => fun _ _ => .bad
 | n + 1 => mFun 2 4
    (mSeq (mAsg 2 (mLst (mNil)))
     (mSeq (mFor (mIter (mVar 0)) (mgName 3)
     (mIf (mB (mBin dEq (mVar 3) (mC (.str (Str.ofString "*")))))
     (mDrop (mMeth isListD dExtend (mVar 2) (mCons (mVar 1) (mNil))))
     (mDrop (mMeth isListD dAppend (mVar 2) (mCons (mTup (mCons (mBin dIx (mVar 3) (mC (.int 0))) (mCons (mCall dTuple (mCons (mCall (m_full_cf168 n) (mCons (mBin dIx (mVar 3) (mC (.int 1))) (mCons (mVar 1) (mNil)))) (mNil))) (mNil)))) (mNil))))))
     (mRet (mVar 2))))
def m_turned_rows_42ac8 : List D → MH → R D := mFun 5 11
 (mSeq (mAsg 5 (mLc (mIter (mVar 1)) (mgName 7) (mYes) (mC .non) [7]))
 (mSeq (mFor (mRev1 (mCall dLen (mCons (mVar 1) (mNil)))) (mgName 6)
 (mIf (mB (mBin dLe (mBin dIx (mVar 3) (mVar 6)) (mVar 4)))
 (mSeq (mAsg 8 (mLst (mNil)))
 (mSeq (mFor (mIter (mBin dIx (mVar 2) (mVar 6))) (mgName 9)
 (mIf (mB (mBin dNotN (mBin dIx (mVar 5) (mVar 9)) (mC .non)))
 (mDrop (mMeth isListD dExtend (mVar 8) (mCons (mBin dIx (mVar 5) (mVar 9)) (mNil))))
 (mSkip)))
 (mSeq (mAsg 10 (mCall (m_for_39fc1) (mCons (mVar 0) (mCons (mBin dIx (mBin dIx (mVar 1) (mVar 6)) (mC (.int 0))) (mNil)))))
 (mIf (mB (mBin dEq (mVar 10) (mTup (mCons (mBin dIx (mBin dIx (mVar 1) (mVar 6)) (mC (.int 0))) (mNil)))))
 (mSetIx (mVar 5) (mVar 6) (mLst (mCons (mTup (mCons (mBin dIx (mBin dIx (mVar 1) (mVar 6)) (mC (.int 0))) (mCons (mCall dTuple (mCons (mVar 8) (mNil))) (mNil)))) (mNil))))
 (mSetIx (mVar 5) (mVar 6) (mCall (m_full_cf168 100) (mCons (mVar 10) (mCons (mVar 8) (mNil)))))))))
 (mSkip)))
 (mRet (mVar 5))))
def m_same_3d8da : Nat → List D → MH → R D
 | 0 => fun _ _ => .bad
 | n + 1 => mFun 2 4
    (mSeq (mIf (mB (mIsi "tuple" (mVar 1)))
     (mSeq (mIf (mOr (mNot (mB (mIsi "tuple" (mVar 0)))) (mB (mBin dNe (mCall dLen (mCons (mVar 0) (mNil))) (mCall dLen (mCons (mVar 1) (mNil))))))
     (mRet (mC (.bl false)))
     (mSkip))
     (mRet (mCall dAll (mCons (mLc (mZipT (mVar 0) (mVar 1)) (mgTup (mgCons (mgName 2) (mgCons (mgName 3) mgNil))) (mYes) (mCall (m_same_3d8da n) (mCons (mVar 2) (mCons (mVar 3) (mNil)))) [2, 3]) (mNil)))))
     (mSkip))
     (mSeq (mIf (mB (mIsi "str" (mVar 1)))
     (mRet (mAndV (mIsi "str" (mVar 0)) (mBin dEq (mVar 0) (mVar 1))))
     (mSkip))
     (mRet (mAndV (mIsi "int" (mVar 0)) (mAndV (mNotV (mIsi "bool" (mVar 0))) (mBin dEq (mVar 0) (mVar 1)))))))
def m_items_for_2ec27 : List D → MH → R D := mFun 2 3
 (mSeq (mFor (mIter (mVar 0)) (mgName 2)
 (mIf (mB (mBin dEq (mBin dIx (mVar 2) (mC (.int 0))) (mVar 1)))
 (mRet (mBin dIx (mVar 2) (mC (.int 1))))
 (mSkip)))
 (mRet (mC .non)))
def m_filled_size_5412a : Nat → List D → MH → R D
 | 0 => fun _ _ => .bad
 | n + 1 => mFun 2 4
    (mSeq (mAsg 2 (mC (.int 0)))
     (mSeq (mFor (mIter (mVar 0)) (mgName 3)
     (mIf (mB (mBin dEq (mVar 3) (mC (.str (Str.ofString "*")))))
     (mAsg 2 (mBin dAdd (mVar 2) (mVar 1)))
     (mAsg 2 (mBin dAdd (mBin dAdd (mVar 2) (mC (.int 1))) (mCall (m_filled_size_5412a n) (mCons (mBin dIx (mVar 3) (mC (.int 1))) (mCons (mVar 1) (mNil))))))))
     (mRet (mVar 2))))
def m_turned_size_aed1e : Nat → List D → MH → R D
 | 0 => fun _ _ => .bad
 | n + 1 => mFun 2 5
    (mSeq (mAsg 2 (mC (.int 0)))
     (mSeq (mFor (mIter (mBin dIx (mVar 1) (mC (.int 1)))) (mgName 3)
     (mAsg 2 (mBin dAdd (mVar 2) (mCall (m_turned_size_aed1e n) (mCons (mVar 0) (mCons (mVar 3) (mNil)))))))
     (mSeq (mAsg 4 (mCall (m_items_for_2ec27) (mCons (mVar 0) (mCons (mBin dIx (mVar 1) (mC (.int 0))) (mNil)))))
     (mSeq (mIf (mB (mBin dIsN (mVar 4) (mC .non)))
     (mRet (mBin dAdd (mC (.int 1)) (mVar 2)))
     (mSkip))
     (mRet (mCall (m_filled_size_5412a 100) (mCons (mVar 4) (mCons (mVar 2) (mNil)))))))))
def m_filled_1058b : Nat → List D → MH → R D
 | 0 => fun _ _ => .bad
 | n + 1 => mFun 2 4
    (mSeq (mAsg 2 (mLst (mNil)))
     (mSeq (mFor (mIter (mVar 0)) (mgName 3)
     (mIf (mB (mBin dEq (mVar 3) (mC (.str (Str.ofString "*")))))
     (mDrop (mMeth isListD dExtend (mVar 2) (mCons (mCall dList (mCons (mVar 1) (mNil))) (mNil))))
     (mDrop (mMeth isListD dAppend (mVar 2) (mCons (mTup (mCons (mBin dIx (mVar 3) (mC (.int 0))) (mCons (mCall (m_filled_1058b n) (mCons (mBin dIx (mVar 3) (mC (.int 1))) (mCons (mVar 1) (mNil)))) (mNil)))) (mNil))))))
     (mRet (mCall dTuple (mCons (mVar 2) (mNil))))))
def m_has_hole_6be3c : Nat → List D → MH → R D
 | 0 => fun _ _ => .bad
 | n + 1 => mFun 1 2
    (mSeq (mFor (mIter (mVar 0)) (mgName 1)
     (mIf (mOr (mB (mBin dEq (mVar 1) (mC (.str (Str.ofString "*"))))) (mB (mCall (m_has_hole_6be3c n) (mCons (mBin dIx (mVar 1) (mC (.int 1))) (mNil)))))
     (mRet (mC (.bl true)))
     (mSkip)))
     (mRet (mC (.bl false))))
def m_turned_row_30c5b : Nat → List D → MH → R D
 | 0 => fun _ _ => .bad
 | n + 1 => mFun 2 5
    (mSeq (mAsg 2 (mCall (m_items_for_2ec27) (mCons (mVar 0) (mCons (mBin dIx (mVar 1) (mC (.int 0))) (mNil)))))
     (mSeq (mAsg 3 (mLst (mNil)))
     (mSeq (mIf (mOr (mB (mBin dIsN (mVar 2) (mC .non))) (mB (mCall (m_has_hole_6be3c 100) (mCons (mVar 2) (mNil)))))
     (mFor (mIter (mBin dIx (mVar 1) (mC (.int 1)))) (mgName 4)
     (mDrop (mMeth isListD dExtend (mVar 3) (mCons (mCall dList (mCons (mCall (m_turned_row_30c5b n) (mCons (mVar 0) (mCons (mVar 4) (mNil)))) (mNil))) (mNil)))))
     (mSkip))
     (mSeq (mIf (mB (mBin dIsN (mVar 2) (mC .non)))
     (mRet (mTup (mCons (mTup (mCons (mBin dIx (mVar 1) (mC (.int 0))) (mCons (mCall dTuple (mCons (mVar 3) (mNil))) (mNil)))) (mNil))))
     (mSkip))
     (mRet (mCall (m_filled_1058b 100) (mCons (mVar 2) (mCons (mVar 3) (mNil)))))))))
def m_turned_9b95f : List D → MH → R D := mFun 2 3
 (mSeq (mAsg 2 (mCall (m_turned_size_aed1e 100) (mCons (mVar 0) (mCons (mVar 1) (mNil)))))
 (mSeq (mIf (mB (mBin dGt (mVar 2) (mC (.int 300))))
 (mRaise (Str.ofString "TooLarge") (Str.ofString "size") (mVar 2))
 (mSkip))
 (mRet (mCall (m_turned_row_30c5b 100) (mCons (mVar 0) (mCons (mVar 1) (mNil)))))))
def m_refused_d8512 : List D → MH → R D := mFun 2 2
 (mSeq (mIf (mOr (mNot (mB (mIsX [((Str.ofString "TooLarge"), true)] (mVar 0)))) (mNot (mB (mIsX [((Str.ofString "TooLarge"), true)] (mVar 0)))))
 (mRet (mC (.bl false)))
 (mSkip))
 (mSeq (mIf (mB (mIsX [((Str.ofString "TooLarge"), false)] (mVar 0)))
 (mRet (mC (.bl false)))
 (mSkip))
 (mRet (mAndV (mIsi "int" (mXf [(Str.ofString "TooLarge")] (Str.ofString "size") (mVar 0))) (mAndV (mNotV (mIsi "bool" (mXf [(Str.ofString "TooLarge")] (Str.ofString "size") (mVar 0)))) (mBin dEq (mXf [(Str.ofString "TooLarge")] (Str.ofString "size") (mVar 0)) (mVar 1)))))))
def m_right_01030 : List D → MH → R D := mFun 4 7
 (mSeq (mIf (mNot (mB (mCall (m_same_3d8da 170) (mCons (mCall (m_turned_size_aed1e 100) (mCons (mVar 0) (mCons (mVar 1) (mNil)))) (mCons (mVar 2) (mNil))))))
 (mRet (mC (.bl false)))
 (mSkip))
 (mSeq (mAsg 4 (mC .non))
 (mSeq (mAsg 5 (mC .non))
 (mSeq (mTryK [((Str.ofString "TooLarge"), true)] 6 4 (mAsg 5 (mCall (m_turned_9b95f) (mCons (mVar 0) (mCons (mVar 1) (mNil))))))
 (mSeq (mIf (mB (mBin dGt (mVar 2) (mC (.int 300))))
 (mRet (mAndV (mBin dNotN (mVar 4) (mC .non)) (mCall (m_refused_d8512) (mCons (mVar 4) (mCons (mVar 2) (mNil))))))
 (mSkip))
 (mRet (mAndV (mBin dIsN (mVar 4) (mC .non)) (mCall (m_same_3d8da 170) (mCons (mVar 5) (mCons (mCall dTuple (mCons (mVar 3) (mNil))) (mNil)))))))))))
def m_law_50755 : List D → MH → R D := mFun 1 9
 (mSeq (mAsg 1 (mCall (m_names_c11ae) (mCons (mCall (m_cell_at_2c4cb) (mCons (mVar 0) (mCons (mC (.int 0)) (mNil)))) (mNil))))
 (mSeq (mAsg 2 (mCall (m_turner_aa784) (mCons (mVar 0) (mCons (mC (.int 1)) (mCons (mC (.int 9)) (mCons (mVar 1) (mCons (mC (.int 3)) (mNil))))))))
 (mSeq (mAsg 2 (mCall (m_deepened_b2bfe) (mCons (mVar 2) (mCons (mCall (m_cell_at_2c4cb) (mCons (mVar 0) (mCons (mC (.int 11)) (mNil)))) (mCons (mVar 1) (mCons (mC (.int 4)) (mNil)))))))
 (mSeq (mAsg 3 (mLc (mRange1 (mCall dMax (mCons (mC (.int 1)) (mCons (mCall dMin (mCons (mC (.int 14)) (mCons (mBin dSub (mCall dLen (mCons (mVar 0) (mNil))) (mC (.int 12))) (mNil)))) (mNil))))) (mgName 6) (mYes) (mCall (m_cell_at_2c4cb) (mCons (mVar 0) (mCons (mBin dAdd (mC (.int 12)) (mVar 6)) (mNil)))) [6]))
 (mSeq (mAsgT (mgTup (mgCons (mgName 7) (mgCons (mgName 8) (mgNil)))) (mCall (m_free_docs_275c6) (mCons (mVar 3) (mCons (mVar 1) (mNil)))))
 (mSeq (mAsg 4 (mCall (m_sizes_d73ec) (mCons (mVar 2) (mCons (mVar 7) (mCons (mVar 8) (mNil))))))
 (mSeq (mIf (mB (mBin dGt (mCall dMaxL (mCons (mVar 4) (mNil))) (mC (.int 3000))))
 (mRet (mC (.bl true)))
 (mSkip))
 (mSeq (mAsg 5 (mCall (m_turned_rows_42ac8) (mCons (mVar 2) (mCons (mVar 7) (mCons (mVar 8) (mCons (mVar 4) (mCons (mC (.int 300)) (mNil))))))))
 (mSeq (mFor (mRange1 (mCall dLen (mCons (mVar 7) (mNil)))) (mgName 6)
 (mIf (mNot (mB (mCall (m_right_01030) (mCons (mVar 2) (mCons (mBin dIx (mVar 7) (mVar 6)) (mCons (mBin dIx (mVar 4) (mVar 6)) (mCons (mBin dIx (mVar 5) (mVar 6)) (mNil))))))))
 (mRet (mC (.bl false)))
 (mSkip)))
 (mRet (mCall (m_right_01030) (mCons (mVar 2) (mCons (mBin dIx (mVar 7) (mC (.int 0))) (mCons (mBin dIx (mVar 4) (mC (.int 0))) (mCons (mBin dIx (mVar 5) (mC (.int 0))) (mNil))))))))))))))))
end Mi

namespace Mi
open PySem L2
/-! items, plain -/
inductive It where
  | hole
  | nd (x : Str) (l : List It)
abbrev star : Str := Str.ofString "*"
mutual
def It.toD : It → D
  | .hole => .str star
  | .nd x l => .tup [.str x, .tup (It.toDs l)]
def It.toDs : List It → List D
  | [] => []
  | i :: l => i.toD :: It.toDs l
end
theorem it_toDs : ∀ l : List It, It.toDs l = l.map It.toD
  | [] => rfl
  | i :: l => by rw [It.toDs, it_toDs l, List.map_cons]
theorem it_nd (x : Str) (l : List It) : (It.nd x l).toD = .tup [.str x, .tup (l.map It.toD)] := by rw [It.toD, it_toDs]
mutual
def It.sz (s : Int) : It → Int
  | .hole => s
  | .nd _ l => 1 + It.szs s l
def It.szs (s : Int) : List It → Int
  | [] => 0
  | i :: l => i.sz s + It.szs s l
end
mutual
def It.fl (row : List Doc) : It → List Doc
  | .hole => row
  | .nd x l => [.mk x (It.fls row l)]
def It.fls (row : List Doc) : List It → List Doc
  | [] => []
  | i :: l => i.fl row ++ It.fls row l
end
mutual
def It.hh : It → Bool
  | .hole => true
  | .nd _ l => It.hhs l
def It.hhs : List It → Bool
  | [] => false
  | i :: l => i.hh || It.hhs l
end
mutual
def It.dp : It → Nat
  | .hole => 0
  | .nd _ l => 1 + It.dps l
def It.dps : List It → Nat
  | [] => 0
  | i :: l => max i.dp (It.dps l)
end
mutual
def Doc.ht : Doc → Nat
  | .mk _ l => 1 + Doc.hts l
def Doc.hts : List Doc → Nat
  | [] => 0
  | d :: l => max d.ht (Doc.hts l)
end
mutual
def Doc.ds : Doc → Int
  | .mk _ l => 1 + Doc.dss l
def Doc.dss : List Doc → Int
  | [] => 0
  | d :: l => d.ds + Doc.dss l
end
theorem hts_app : ∀ a b : List Doc, Doc.hts (a ++ b) = max (Doc.hts a) (Doc.hts b)
  | [], b => by simp [Doc.hts]
  | d :: a, b => by rw [List.cons_append, Doc.hts, hts_app a b, Doc.hts]; omega
theorem dss_app : ∀ a b : List Doc, Doc.dss (a ++ b) = Doc.dss a + Doc.dss b
  | [], b => by simp [Doc.dss]
  | d :: a, b => by rw [List.cons_append, Doc.dss, dss_app a b, Doc.dss]; omega
mutual
theorem fl_dss (row : List Doc) : ∀ i : It, Doc.dss (i.fl row) = i.sz (Doc.dss row)
  | .hole => rfl
  | .nd x l => by rw [It.fl, It.sz, Doc.dss, Doc.dss, Doc.ds, fls_dss row l]; omega
theorem fls_dss (row : List Doc) : ∀ l : List It, Doc.dss (It.fls row l) = It.szs (Doc.dss row) l
  | [] => rfl
  | i :: l => by rw [It.fls, It.szs, dss_app, fl_dss row i, fls_dss row l]
end
mutual
theorem fl_hts (row : List Doc) : ∀ i : It, Doc.hts (i.fl row) ≤ i.dp + Doc.hts row
  | .hole => by rw [It.fl, It.dp]; omega
  | .nd x l => by
    have := fls_hts row l
    rw [It.fl, It.dp, Doc.hts, Doc.hts, Doc.ht]
    omega
theorem fls_hts (row : List Doc) : ∀ l : List It, Doc.hts (It.fls row l) ≤ It.dps l + Doc.hts row
  | [] => by rw [It.fls, Doc.hts]; omega
  | i :: l => by
    have h1 := fl_hts row i
    have h2 := fls_hts row l
    rw [It.fls, hts_app, It.dps]
    omega
end
mutual
theorem sz_pos {s : Int} (hs : 0 ≤ s) : ∀ i : It, 0 ≤ i.sz s
  | .hole => hs
  | .nd x l => by have := szs_pos hs l; rw [It.sz]; omega
theorem szs_pos {s : Int} (hs : 0 ≤ s) : ∀ l : List It, 0 ≤ It.szs s l
  | [] => Int.le_refl _
  | i :: l => by have := sz_pos hs i; have := szs_pos hs l; rw [It.szs]; omega
end
mutual
theorem sz_hole {s : Int} (hs : 0 ≤ s) : ∀ i : It, i.hh = true → s ≤ i.sz s
  | .hole, _ => Int.le_refl _
  | .nd x l, h => by have := szs_hole hs l h; rw [It.sz]; omega
theorem szs_hole {s : Int} (hs : 0 ≤ s) : ∀ l : List It, It.hhs l = true → s ≤ It.szs s l
  | i :: l, h => by
    rw [It.hhs, Bool.or_eq_true] at h
    rw [It.szs]
    rcases h with h | h
    · have := sz_hole hs i h; have := szs_pos hs l; omega
    · have := sz_pos hs i; have := szs_hole hs l h; omega
end
mutual
theorem fl_no {row row' : List Doc} : ∀ i : It, i.hh = false → i.fl row = i.fl row'
  | .hole, h => by cases h
  | .nd x l, h => by rw [It.fl, It.fl, fls_no l h]
theorem fls_no {row row' : List Doc} : ∀ l : List It, It.hhs l = false → It.fls row l = It.fls row' l
  | [], _ => rfl
  | i :: l, h => by
    rw [It.hhs, Bool.or_eq_false_iff] at h
    rw [It.fls, It.fls, fl_no i h.1, fls_no l h.2]
end
theorem ds_pos : ∀ d : Doc, 1 ≤ d.ds ∧ True
  | .mk x l => by
    refine ⟨?_, trivial⟩
    rw [Doc.ds]
    have : ∀ l : List Doc, (∀ d ∈ l, 1 ≤ d.ds) → 0 ≤ Doc.dss l := fun l => by
      induction l with
      | nil => intro _; exact Int.le_refl _
      | cons d l ih =>
        intro h
        have h1 := h d List.mem_cons_self
        have h2 := ih fun e he => h e (List.mem_cons_of_mem _ he)
        rw [Doc.dss]; omega
    have := this l fun d hd => (ds_pos d).1
    omega
theorem dss_len : ∀ l : List Doc, (l.length : Int) ≤ Doc.dss l
  | [] => Int.le_refl _
  | d :: l => by have := (ds_pos d).1; have := dss_len l; rw [Doc.dss, List.length_cons]; omega
theorem dss_mem : ∀ {l : List Doc} {d : Doc}, d ∈ l → d.ds ≤ Doc.dss l
  | e :: l, d, h => by
    rw [Doc.dss]
    have h0 := dss_len l
    have h1 := (ds_pos e).1
    rcases List.mem_cons.mp h with rfl | h
    · omega
    · have := dss_mem h; omega
theorem hts_mem : ∀ {l : List Doc} {d : Doc}, d ∈ l → d.ht ≤ Doc.hts l
  | e :: l, d, h => by
    rw [Doc.hts]
    rcases List.mem_cons.mp h with rfl | h
    · omega
    · have := hts_mem h; omega
def Doc.fit : Nat → Doc → Prop
  | 0, _ => False
  | n + 1, .mk _ l => l.length ≤ 5000 ∧ ∀ k ∈ l, k.fit n
theorem fit_of : ∀ (n : Nat) (d : Doc), d.ht ≤ n → d.ds ≤ 5000 → d.fit n
  | 0, .mk x l, h, _ => by rw [Doc.ht] at h; omega
  | n + 1, .mk x l, h, hd => by
    rw [Doc.ht] at h
    rw [Doc.ds] at hd
    have h1 := dss_len l
    refine ⟨by omega, fun k hk => fit_of n k ?_ ?_⟩
    · have := hts_mem hk; omega
    · have := dss_mem hk; omega
/-! turners -/
abbrev TRl := List (Str × List It)
def look : TRl → Str → Option (List It)
  | [], _ => none
  | (y, its) :: r, x => if y = x then some its else look r x
mutual
def tsz (rl : TRl) : Doc → Int
  | .mk x l => match look rl x with
    | none => 1 + tszs rl l
    | some its => It.szs (tszs rl l) its
def tszs (rl : TRl) : List Doc → Int
  | [] => 0
  | d :: l => tsz rl d + tszs rl l
end
mutual
def trw (rl : TRl) : Doc → List Doc
  | .mk x l => match look rl x with
    | none => [.mk x (trws rl l)]
    | some its => It.fls (trws rl l) its
def trws (rl : TRl) : List Doc → List Doc
  | [] => []
  | d :: l => trw rl d ++ trws rl l
end
mutual
theorem trw_dss (rl : TRl) : ∀ d : Doc, Doc.dss (trw rl d) = tsz rl d
  | .mk x l => by
    rw [trw, tsz]
    have := trws_dss rl l
    cases look rl x with
    | none => simp only [Doc.dss, Doc.ds, this]; omega
    | some its => simp only [fls_dss, this]
theorem trws_dss (rl : TRl) : ∀ l : List Doc, Doc.dss (trws rl l) = tszs rl l
  | [] => rfl
  | d :: l => by rw [trws, tszs, dss_app, trw_dss rl d, trws_dss rl l]
end
theorem tsz_pos (rl : TRl) (d : Doc) : 0 ≤ tsz rl d := by rw [← trw_dss]; have := dss_len (trw rl d); omega
theorem tszs_pos (rl : TRl) (l : List Doc) : 0 ≤ tszs rl l := by rw [← trws_dss]; have := dss_len (trws rl l); omega
theorem look_mem {x : Str} {its : List It} : ∀ {rl : TRl}, look rl x = some its → (x, its) ∈ rl
  | (y, l) :: r, h => by
    rw [look] at h
    split at h
    · rename_i e; cases h; rw [e]; exact List.mem_cons_self
    · exact List.mem_cons_of_mem _ (look_mem h)
def RlD (rl : TRl) (w : Nat) : Prop := ∀ p ∈ rl, It.dps p.2 ≤ w
mutual
theorem trw_hts {rl : TRl} {w : Nat} (hw : 1 ≤ w) (h : RlD rl w) : ∀ d : Doc, Doc.hts (trw rl d) ≤ w * d.ht
  | .mk x l => by
    have h1 := trws_hts hw h l
    rw [trw, Doc.ht, Nat.mul_add, Nat.mul_one]
    cases e : look rl x with
    | none => simp only [Doc.hts, Doc.ht]; omega
    | some its =>
      have h2 := h _ (look_mem e)
      have h3 := fls_hts (trws rl l) its
      simp only at h2 ⊢
      omega
theorem trws_hts {rl : TRl} {w : Nat} (hw : 1 ≤ w) (h : RlD rl w) : ∀ l : List Doc, Doc.hts (trws rl l) ≤ w * Doc.hts l
  | [] => by rw [trws, Doc.hts]; omega
  | d :: l => by
    have h1 := trw_hts hw h d
    have h2 := trws_hts hw h l
    rw [trws, hts_app, Doc.hts]
    have a1 : w * d.ht ≤ w * max d.ht (Doc.hts l) := Nat.mul_le_mul_left _ (by omega)
    have a2 : w * Doc.hts l ≤ w * max d.ht (Doc.hts l) := Nat.mul_le_mul_left _ (by omega)
    omega
end
end Mi

namespace Mi
open PySem L2
local macro_rules | `(tactic| walk_at "gl") => `(tactic| first
  | assumption
  | (refine Own.atL (h0 := ?_) (L := ?_) ?_ 0 ?_; rotate_left; rotate_left; assumption; rfl)
  | (refine Own.atL (h0 := ?_) (L := ?_) ?_ 1 ?_; rotate_left; rotate_left; assumption; rfl)
  | (refine Own.atL (h0 := ?_) (L := ?_) ?_ 2 ?_; rotate_left; rotate_left; assumption; rfl)
  | (refine Own.atL (h0 := ?_) (L := ?_) ?_ 3 ?_; rotate_left; rotate_left; assumption; rfl)
  | (refine Own.atL (h0 := ?_) (L := ?_) ?_ 4 ?_; rotate_left; rotate_left; assumption; rfl)
  | (refine Own.atL (h0 := ?_) (L := ?_) ?_ 5 ?_; rotate_left; rotate_left; assumption; rfl)
  | (refine Own.atL (h0 := ?_) (L := ?_) ?_ 6 ?_; rotate_left; rotate_left; assumption; rfl)
  | (refine Own.atL (h0 := ?_) (L := ?_) ?_ 7 ?_; rotate_left; rotate_left; assumption; rfl)
  | (refine Own.atL (h0 := ?_) (L := ?_) ?_ 8 ?_; rotate_left; rotate_left; assumption; rfl)
  | (refine Own.atL (h0 := ?_) (L := ?_) ?_ 9 ?_; rotate_left; rotate_left; assumption; rfl)
  | (refine Own.getL (h0 := ?_) (L := ?_) ?_ ?_; rotate_left; rotate_left; assumption; assumption))
local macro_rules | `(tactic| walk_at "il") => `(tactic| first
  | (refine Own.isL (h0 := ?_) (L := ?_) (l := ?_) ?_ 0 ?_; rotate_left; rotate_left; rotate_left; assumption; rfl)
  | (refine Own.isL (h0 := ?_) (L := ?_) (l := ?_) ?_ 1 ?_; rotate_left; rotate_left; rotate_left; assumption; rfl)
  | (refine Own.isL (h0 := ?_) (L := ?_) (l := ?_) ?_ 2 ?_; rotate_left; rotate_left; rotate_left; assumption; rfl)
  | (refine Own.isL (h0 := ?_) (L := ?_) (l := ?_) ?_ 3 ?_; rotate_left; rotate_left; rotate_left; assumption; rfl)
  | (refine Own.isL (h0 := ?_) (L := ?_) (l := ?_) ?_ 4 ?_; rotate_left; rotate_left; rotate_left; assumption; rfl)
  | (refine Own.isL (h0 := ?_) (L := ?_) (l := ?_) ?_ 5 ?_; rotate_left; rotate_left; rotate_left; assumption; rfl)
  | (refine Own.isL (h0 := ?_) (L := ?_) (l := ?_) ?_ 6 ?_; rotate_left; rotate_left; rotate_left; assumption; rfl)
  | (refine Own.isL (h0 := ?_) (L := ?_) (l := ?_) ?_ 7 ?_; rotate_left; rotate_left; rotate_left; assumption; rfl)
  | (refine Own.isL (h0 := ?_) (L := ?_) (l := ?_) ?_ 8 ?_; rotate_left; rotate_left; rotate_left; assumption; rfl)
  | (refine Own.isL (h0 := ?_) (L := ?_) (l := ?_) ?_ 9 ?_; rotate_left; rotate_left; rotate_left; assumption; rfl))
local macro_rules | `(tactic| walk_at "bd") => `(tactic| first | assumption | omega | (simp; done) | (simp; omega) | (simp [*]; done) | (simp [*]; omega))
local macro_rules | `(tactic| walk_at "w") => `(tactic| first
  | with_reducible refine w_seq ?_
  | with_reducible refine w_asg ?_
  | with_reducible refine w_cons ?_
  | with_reducible refine w_nil ?_
  | with_reducible refine w_c ?_
  | ((with_reducible refine w_var (d := ?_) ?_ ?_); rotate_left; rfl)
  | with_reducible refine w_bin ?_
  | with_reducible refine w_call ?_
  | with_reducible refine w_if ?_
  | with_reducible refine w_B ?_
  | with_reducible refine w_unB ?_
  | with_reducible refine w_ret ?_
  | with_reducible refine w_drop ?_
  | with_reducible refine w_skip ?_
  | with_reducible refine w_eq (dAdd_int _ _ _) ?_
  | with_reducible refine w_eq (dSub_int _ _ _) ?_
  | with_reducible refine w_eq (dEq_int _ _ _) ?_
  | with_reducible refine w_eq (dEq_str _ _ _) ?_
  | with_reducible refine w_eq (dNe_strs _ _ _) ?_
  | with_reducible refine w_eq (dEq_bls _ _ _) ?_
  | with_reducible refine w_eq (dNe_bls _ _ _) ?_
  | with_reducible refine w_eq (dLt_int _ _ _) ?_
  | with_reducible refine w_eq (dLe_int _ _ _) ?_
  | with_reducible refine w_eq (dGt_int _ _ _) ?_
  | with_reducible refine w_eq (dGe_int _ _ _) ?_
  | with_reducible refine w_eq (dNe_int _ _ _) ?_
  | ((with_reducible refine w_mod ?_ ?_); (first | assumption | decide | omega))
  | ((with_reducible refine w_fdiv ?_ ?_); (first | assumption | decide | omega))
  | ((with_reducible refine w_mulS ?_ ?_); (first | decide | omega))
  | ((with_reducible refine w_addS ?_ ?_); (first | assumption | decide | omega))
  | ((with_reducible refine w_lenS ?_ ?_); (first | assumption | decide | omega))
  | ((with_reducible refine w_slS ?_ ?_); (first | assumption | decide | omega))
  | with_reducible refine w_lenTm ?_
  | with_reducible refine w_eq (dLen_tup _ _) ?_
  | with_reducible refine w_eq (dSl_tup _ _ _ _) ?_
  | with_reducible refine w_eq (dMax_ev _ _ _) ?_
  | with_reducible refine w_eq (dMin_ev _ _ _) ?_
  | with_reducible refine w_eq (dAbs_ev _ _) ?_
  | with_reducible refine w_not ?_
  | with_reducible refine w_and ?_
  | with_reducible refine w_or ?_
  | with_reducible refine br_n ?_
  | with_reducible refine br_tt ?_
  | with_reducible refine br_ff ?_
  | ((with_reducible refine br_dt ?_ ?_); (first | assumption | omega | rfl))
  | ((with_reducible refine br_df ?_ ?_); (first | assumption | omega))
  | with_reducible refine w_tup ?_
  | ((with_reducible refine w_toTup ?_ ?_); exact (by simp))
  | with_reducible refine w_lst ?_
  | with_reducible refine w_lc ?_
  | with_reducible refine w_for ?_
  | with_reducible refine w_range1 ?_
  | with_reducible refine w_range2 ?_
  | ((with_reducible refine w_dR1 ?_ ?_); (first | decide | omega))
  | ((with_reducible refine w_dR2 ?_ ?_); (first | decide | omega))
  | with_reducible refine w_iter ?_
  | with_reducible refine w_eq (iter1_tup _ _) ?_
  | with_reducible refine w_eq (iter1_str _ _) ?_
  | with_reducible refine w_sl ?_
  | with_reducible refine w_no ?_
  | with_reducible refine w_some ?_
  | with_reducible refine w_unI ?_
  | with_reducible refine w_meth ?_
  | with_reducible refine w_isi ?_
  | with_reducible refine w_zip ?_
  | with_reducible refine w_ifE ?_
  | with_reducible refine w_andV ?_
  | with_reducible refine w_orV ?_
  | with_reducible refine w_notV ?_
  | with_reducible refine w_andK ?_
  | with_reducible refine w_orK ?_
  | with_reducible refine w_notK ?_
  | with_reducible refine w_revL ?_
  | with_reducible refine w_listRg1 ?_
  | with_reducible refine w_tindex ?_
  | with_reducible refine w_setIx ?_
  | with_reducible refine w_un ?_
  | with_reducible refine w_rev1 ?_
  | with_reducible refine w_rev2 ?_
  | with_reducible refine w_chain ?_
  | with_reducible refine w_chK ?_
  | with_reducible refine w_retN ?_
  | with_reducible refine w_brk ?_
  | with_reducible refine w_cont ?_
  | with_reducible refine w_asgT ?_
  | with_reducible refine w_eq (isi_str_str _ _) ?_
  | with_reducible refine w_eq (isi_int_int _ _) ?_
  | with_reducible refine w_eq (isi_tup_tup _ _) ?_
  | with_reducible refine w_eq (isi_bool_int _ _) ?_
  | with_reducible refine w_eq (isi_str_int _ _) ?_
  | ((with_reducible refine w_lenLm (α := ?_) (f := ?_) (l := ?_) ?_ ?_); rotate_left; rotate_left; rotate_left; walk_at "gl")
  | ((with_reducible refine w_lenL (l := ?_) ?_ ?_); rotate_left; walk_at "gl")
  | ((with_reducible refine w_iterL (l := ?_) ?_ ?_); rotate_left; walk_at "gl"; dsimp only)
  | ((with_reducible refine w_tupL (l := ?_) ?_ ?_); rotate_left; walk_at "gl")
  | ((with_reducible refine w_ixT (d := ?_) ?_ ?_); rotate_left; (first | with_reducible assumption | rfl))
  | ((with_reducible refine w_ixL (l := ?_) (d := ?_) ?_ ?_ ?_); rotate_left; rotate_left; walk_at "gl"; (first | with_reducible assumption | rfl))
  | ((with_reducible refine w_addT ?_ ?_); walk_at "bd")
  | ((with_reducible refine ⟨?_, ?_⟩); (with_reducible (show isListD (.ref _) _ = true)); walk_at "il")
  | with_reducible refine w_tryK ?_
  | with_reducible refine w_raise ?_
  | with_reducible refine w_raise0 ?_
  | with_reducible refine w_isX ?_
  | ((with_reducible refine w_isXK (k := ?_) ?_ ?_); rotate_left; (first | with_reducible exact lkA | (apply lkB; decide +kernel; exact lkA) | (apply lkB; decide +kernel; apply lkB; decide +kernel; exact lkA) | (apply lkB; decide +kernel; apply lkB; decide +kernel; apply lkB; decide +kernel; exact lkA)))
  | with_reducible refine w_xf ?_
  | ((with_reducible refine w_xfK ?_ ?_ ?_); (exact List.mem_cons_self); (decide))
  | with_reducible refine w_eq (isN_xo _) ?_
  | with_reducible refine w_eq (dNeg_int _ _) ?_)
local macro_rules | `(tactic| walk_at "go") => `(tactic| (repeat (walk_at "w")); try dsimp only [List.set])
local macro_rules | `(tactic| walk_at "fn") => `(tactic| ((refine w_fun ?_); simp only [startD, List.map_cons, List.map_nil, List.reduceReplicate, Nat.reduceSub, List.cons_append, List.nil_append]; walk_at "go"))
def W4 (n : Nat) (x : Str) : Prop := Wd n x ∧ 42 ∉ x.cps.toList
theorem W4.app {a b : Nat} {x y : Str} (hx : W4 a x) (hy : W4 b y) : W4 (a + b) (x ++ y) := ⟨hx.1.app hy.1, fun h => by
  rw [app_cps] at h
  rcases List.mem_append.mp h with h | h
  · exact hx.2 h
  · exact hy.2 h⟩
theorem W4.cut {a : Nat} {x : Str} (hx : W4 a x) (lo hi : Option Int) : W4 a (cutS x lo hi) := ⟨hx.1.cut lo hi, fun h => hx.2 (List.mem_of_mem_drop (List.mem_of_mem_take h))⟩
theorem W4.le {a b : Nat} {x : Str} (hx : W4 a x) (h : a ≤ b) : W4 b x := ⟨hx.1.le h, hx.2⟩
theorem W4.join {ys : List Str} (h : ∀ y ∈ ys, W4 1 y) : W4 ys.length (Txt.join (Str.ofString "") ys) := ⟨Wd.join fun y hy => (h y hy).1, fun hc => by
  rw [join_cps] at hc
  obtain ⟨l, hl, hc⟩ := List.mem_flatten.mp hc
  obtain ⟨y, hy, rfl⟩ := List.mem_map.mp hl
  exact (h y hy).2 hc⟩
theorem abc42 : 42 ∉ (Str.ofString "abcdefghijklmnopqrstuvwxyz").cps.toList := by decide +kernel
theorem w_ixLt4 {i : Int} {h : MH} {Q : D → MH → Prop} {E : XE} (q : ∀ c, W4 1 ⟨#[c]⟩ → Q (.str ⟨#[c]⟩) h) : Sat (dIx (.str (Str.ofString "abcdefghijklmnopqrstuvwxyz")) (.int (i % 26)) h) Q E := by
  obtain ⟨a, b⟩ := mod_in i (n := 26) (by decide)
  obtain ⟨c, e, e2⟩ := atI_in (l := (Str.ofString "abcdefghijklmnopqrstuvwxyz").cps.toList) a (by rw [← str_len, lt_len]; exact b)
  have hm := List.mem_of_getElem? e2
  exact w_ixS (by rw [lt_len]; decide) e (q c ⟨ltrs_wd.sign hm, fun h => by
    have : (42 : Nat) = c := by simpa using h
    rw [← this] at hm
    exact abc42 hm⟩)
def W4s (n : Nat) (l : List D) : Prop := ∃ ns : List Str, l = ns.map .str ∧ ∀ x ∈ ns, W4 n x
theorem strs_all4 {n : Nat} : ∀ {ys : List D}, (∀ (i : Nat) y, ys[i]? = some y → ∃ x, y = .str x ∧ W4 n x) → W4s n ys
  | [], _ => ⟨[], rfl, fun x hx => by simp at hx⟩
  | y :: ys, h => by
    obtain ⟨x, rfl, hx⟩ := h 0 y rfl
    obtain ⟨ns, rfl, hn⟩ := strs_all4 (ys := ys) fun i z hz => h (i + 1) z (by simpa using hz)
    refine ⟨x :: ns, rfl, fun z hz => ?_⟩
    rcases List.mem_cons.mp hz with rfl | hz
    · exact hx
    · exact hn z hz
theorem W4s.app {n : Nat} {l m : List D} (hl : W4s n l) (hm : W4s n m) : W4s n (l ++ m) := by
  obtain ⟨a, rfl, ha⟩ := hl
  obtain ⟨b, rfl, hb⟩ := hm
  refine ⟨a ++ b, by simp, fun x hx => ?_⟩
  rcases List.mem_append.mp hx with h | h
  · exact ha x h
  · exact hb x h
theorem W4s.one {n : Nat} {x : Str} (h : W4 n x) : W4s n [.str x] := ⟨[x], rfl, fun y hy => by rw [List.mem_singleton.mp hy]; exact h⟩
theorem W4s.wd {n : Nat} {l : List D} (h : W4s n l) : Wds n l := by
  obtain ⟨a, e, ha⟩ := h
  exact ⟨a, e, fun x hx => (ha x hx).1⟩
theorem w_addW4 {a b : Nat} {x y : Str} {h : MH} {Q : D → MH → Prop} {E : XE} (hx : W4 a x) (hy : W4 b y) (c : a + b ≤ 1000000) (q : W4 (a + b) (x ++ y) → Q (.str (x ++ y)) h) : Sat (dAdd (.str x) (.str y) h) Q E :=
  w_addS (by have := hx.1.1; have := hy.1.1; omega) (q (hx.app hy))
theorem c_names4 {c : Int} {h : MH} : Sat (m_names_c11ae [.int c] h) (fun d h' => ∃ i l, d = .ref i ∧ Own h h' [(i, l)] ∧ l.length = 9 ∧ W4s 20 l) noX := by
  walk_at "fn"
  refine ⟨rfl, ?_⟩
  walk_at "go"
  refine o_comp (fun _ y => ∃ x, y = .str x ∧ W4 1 x) (Own.nil h) (by simp) (fun _ _ => rfl) ?_ ?_
  · intro i d h' hd _
    obtain ⟨hi, rfl⟩ := rangeD_get hd
    refine ⟨_, rfl, ?_⟩
    have hi' : i < 8 := hi
    walk_at "go"
    exact w_ixLt4 fun c hc => ⟨rfl, _, rfl, hc⟩
  intro ys hy hp i1 h1 o1
  obtain ⟨ns, rfl, hn⟩ := strs_all4 hp
  have hy8 : ns.length = 8 := by simpa using hy
  have sm : (ns.map (·.length)).sum ≤ 8 := by
    rw [← hy8]
    clear hp hy hy8 o1
    induction ns with
    | nil => simp
    | cons y ys ih =>
      have h1 := (hn y List.mem_cons_self).1.1
      have h2 := ih fun z hz => hn z (List.mem_cons_of_mem _ hz)
      simp only [List.map_cons, List.sum_cons, List.length_cons]
      omega
  walk_at "go"
  refine w_join (o1.atL 0 rfl) (by rw [show (Str.ofString "").length = 0 from rfl]; omega) ?_
  have hb := W4.join hn
  rw [hy8] at hb
  generalize Txt.join (Str.ofString "") ns = base at hb
  have hbl : base.length ≤ 8 := hb.1.1
  walk_at "go"
  refine br_d (fun c1 => ?_) (fun c1 => ?_)
  · walk_at "go"
    refine o_comp (fun _ y => ∃ x, y = .str x ∧ W4 20 x) o1.none (by simp) (fun _ _ => rfl) ?_ ?_
    · intro i d h' hd _
      obtain ⟨hi, rfl⟩ := rangeD_get hd
      have hi' : i < 9 := hi
      refine ⟨_, rfl, ?_⟩
      walk_at "go"
      refine w_ixLt4 fun c' hc => ?_
      refine w_addW4 (hb.cut _ _) hc (by decide) fun h5 => ?_
      walk_at "go"
      refine w_addW4 h5 (hb.cut _ _) (by decide) fun h6 => ?_
      exact ⟨rfl, _, rfl, h6.le (by decide)⟩
    · intro ys hy hp i2 h2 o2
      exact ⟨i2, ys, rfl, o2, by simpa using hy, strs_all4 hp⟩
  · walk_at "go"
    refine br_d (fun c2 => ?_) (fun c2 => ?_)
    · walk_at "go"
      refine o_comp (fun _ y => ∃ x, y = .str x ∧ W4 20 x) o1.none (by simp) (fun _ _ => rfl) ?_ ?_
      · intro i d h' hd _
        obtain ⟨hi, rfl⟩ := rangeD_get hd
        refine ⟨_, rfl, ?_⟩
        walk_at "go"
        exact ⟨rfl, _, rfl, (hb.cut _ _).le (by decide)⟩
      intro ys hy hp i2 h2 o2
      walk_at "go"
      refine o_new o2 (by simp) fun i3 h3 o3 => ?_
      refine o_add o3 (o3.at 1 rfl) (o3.at 0 rfl) (by simp at hy; simp [hy]) fun i4 h4 o4 => ?_
      exact ⟨i4, _, rfl, o4.head, by simp at hy; simp [hy], (strs_all4 hp).app (.one ((hb.cut _ _).le (by decide)))⟩
    · walk_at "go"
      refine o_comp (fun _ y => ∃ x, y = .str x ∧ W4 20 x) o1.none (by simp) (fun _ _ => rfl) ?_ ?_
      · intro i d h' hd _
        obtain ⟨hi, rfl⟩ := rangeD_get hd
        have hi' : i < 9 := hi
        refine ⟨_, rfl, ?_⟩
        walk_at "go"
        exact w_ixLt4 fun c hc => ⟨rfl, _, rfl, hc.le (by decide)⟩
      · intro ys hy hp i2 h2 o2
        exact ⟨i2, ys, rfl, o2, by simpa using hy, strs_all4 hp⟩
/-! items drawn -/
def NamOk (x : Str) : Prop := OkS x ∧ x ≠ star
theorem W4.nam {n : Nat} {x : Str} (h : W4 n x) : NamOk x := ⟨h.1.2, fun e => by
  have : (42 : Nat) ∈ star.cps.toList := by decide +kernel
  rw [← e] at this
  exact h.2 this⟩
def It.ok : Nat → It → Prop
  | _, .hole => True
  | 0, .nd _ _ => False
  | n + 1, .nd x l => NamOk x ∧ l.length ≤ 3 ∧ ∀ i ∈ l, i.ok n
theorem it_mono : ∀ {n m : Nat} {i : It}, i.ok n → n ≤ m → i.ok m
  | n, m, .hole, _, _ => by cases m <;> trivial
  | 0, m, .nd _ _, h, _ => h.elim
  | n + 1, 0, .nd _ _, _, h => by omega
  | n + 1, m + 1, .nd x l, h, hm => ⟨h.1, h.2.1, fun i hi => it_mono (h.2.2 i hi) (by omega)⟩
theorem pool_at {ns : List Str} (hl : ns.length = 9) {z : Int} (h0 : 0 ≤ z) (h1 : z < 9) : ∃ x, x ∈ ns ∧ atI (ns.map D.str) z = some (.str x) := by
  obtain ⟨d, e1, e2⟩ := atI_in (l := ns.map D.str) h0 (by simp; omega)
  rw [List.getElem?_map, Option.map_eq_some_iff] at e2
  obtain ⟨x, e3, rfl⟩ := e2
  exact ⟨x, List.mem_of_getElem? e3, e1⟩
theorem cc_items {h0 : MH} {ns : List Str} {ip i : Nat} (hns : ∀ x ∈ ns, W4 20 x) (h9 : ns.length = 9) (gp : getL h0 ip = some (ns.map .str)) : ∀ (t n : Nat) (L : LL) (l : List D) (h : MH) (dp : Nat), dp < t → Own h0 h L → L[n]? = some (i, l) → Tp l →
    Sat (m_items_b2406 t [.ref i, .int (dp : Int), .ref ip] h) (fun d h' => ∃ (its : List It) (l' : List D), d = .tup (its.map It.toD) ∧ Tp l' ∧ Own h0 h' (L.set n (i, l')) ∧ its.length ≤ 3 ∧ ∀ it ∈ its, it.ok (dp + 1)) noX
  | 0, n, L, l, h, dp, h1, _, _, _ => by omega
  | t + 1, n, L, l, h, dp, h1, ow, e, tl => by
    have hn := (List.getElem?_eq_some_iff.mp e).1
    unfold m_items_b2406
    walk_at "fn"
    refine o_new ow (by simp) fun iF h2 o2 => ?_
    walk_at "go"
    refine (c_next o2 (n + 1) (by rw [List.getElem?_cons_succ]; exact e) tl (by decide)).mono ?_
    rintro d h3 ⟨v, l3, rfl, v0, v1, tl3, o3⟩
    rw [List.set_cons_succ] at o3
    walk_at "go"
    refine w_loop0 (fun k ρ h' => ∃ (o4 o5 : Option D) (its : List It) (l' : List D), ρ = [some (.ref i), some (.int (dp : Int)), some (.ref ip), some (.ref iF), o4, o5] ∧ Tp l' ∧ Own h0 h' ((iF, its.map It.toD) :: L.set n (i, l')) ∧ its.length = k ∧ ∀ it ∈ its, it.ok (dp + 1)) ⟨none, none, [], l3, rfl, tl3, o3, rfl, fun it hit => by simp at hit⟩ (fun _ _ _ _ => rfl) ?_ ?_
    · rintro k d ρ h4 hd ⟨o4, o5, its, l4, rfl, tl4, ow4, hk, hits⟩
      obtain ⟨hkv, rfl⟩ := rangeD_get hd
      refine ⟨_, rfl, ?_⟩
      dsimp only [List.set]
      have e4 : ((iF, its.map It.toD) :: L.set n (i, l4))[n + 1]? = some (i, l4) := by rw [List.getElem?_cons_succ, List.getElem?_set_self hn]
      have gp4 := ow4.getL gp
      walk_at "go"
      refine (c_next ow4 (n + 1) e4 tl4 (by decide)).mono ?_
      rintro d h5 ⟨v5, l5, rfl, v50, v51, tl5, o5'⟩
      rw [List.set_cons_succ, List.set_set] at o5'
      have e5 : ((iF, its.map It.toD) :: L.set n (i, l5))[n + 1]? = some (i, l5) := by rw [List.getElem?_cons_succ, List.getElem?_set_self hn]
      walk_at "go"
      refine br_d (fun q => ?_) (fun q => ?_)
      · walk_at "go"
        refine o_app o5' 0 rfl (by simp; omega) fun h6 o6 => ?_
        have e6 : D.str (Str.ofString "*") = It.hole.toD := rfl
        rw [List.set_cons_zero, e6, map_app1] at o6
        exact ⟨_, _, _, l5, rfl, tl5, o6, by simp [hk], mem_app hits trivial⟩
      · walk_at "go"
        refine br_d (fun q2 => ?_) (fun q2 => ?_)
        · have hd0 : dp = 0 := by omega
          subst hd0
          walk_at "go"
          refine (c_next o5' (n + 1) e5 tl5 (by decide)).mono ?_
          rintro d h6 ⟨v6, l6, rfl, v60, v61, tl6, o6⟩
          rw [List.set_cons_succ, List.set_set] at o6
          obtain ⟨x, hx, ax⟩ := pool_at h9 v60 v61
          have gp6 := o6.getL gp
          walk_at "go"
          refine o_app o6 0 rfl (by simp; omega) fun h7 o7 => ?_
          have e7 : D.tup [.str x, .tup []] = (It.nd x []).toD := by rw [it_nd]; rfl
          rw [List.set_cons_zero, e7, map_app1] at o7
          exact ⟨_, _, _, l6, rfl, tl6, o7, by simp [hk], mem_app hits ⟨(hns x hx).nam, by simp, fun j hj => by simp at hj⟩⟩
        · obtain ⟨dq, rfl⟩ : ∃ dq, dp = dq + 1 := ⟨dp - 1, by omega⟩
          walk_at "go"
          refine (c_next o5' (n + 1) e5 tl5 (by decide)).mono ?_
          rintro d h6 ⟨v6, l6, rfl, v60, v61, tl6, o6⟩
          rw [List.set_cons_succ, List.set_set] at o6
          obtain ⟨x, hx, ax⟩ := pool_at h9 v60 v61
          have gp6 := o6.getL gp
          have e6 : ((iF, its.map It.toD) :: L.set n (i, l6))[n + 1]? = some (i, l6) := by rw [List.getElem?_cons_succ, List.getElem?_set_self hn]
          walk_at "go"
          have edq : ((dq + 1 : Nat) : Int) - 1 = (dq : Int) := by omega
          rw [edq]
          refine (cc_items hns h9 gp t (n + 1) _ l6 h6 dq (by omega) o6 e6 tl6).mono ?_
          rintro d h7 ⟨sub, l7, rfl, tl7, o7, hs3, hsub⟩
          rw [List.set_cons_succ, List.set_set] at o7
          walk_at "go"
          refine o_app o7 0 rfl (by simp; omega) fun h8 o8 => ?_
          have e8 : D.tup [.str x, .tup (sub.map It.toD)] = (It.nd x sub).toD := (it_nd x sub).symm
          rw [List.set_cons_zero, e8, map_app1] at o8
          exact ⟨_, _, _, l7, rfl, tl7, o8, by simp [hk], mem_app hits ⟨(hns x hx).nam, by omega, hsub⟩⟩
    · rintro ρ h4 ⟨o4, o5, its, l4, rfl, tl4, ow4, hk, hits⟩
      rw [rangeD_length] at hk
      walk_at "go"
      exact ⟨its, l4, rfl, tl4, ow4.tail, by omega, hits⟩
end Mi

namespace Mi
open PySem L2
local macro_rules | `(tactic| walk_at "gl") => `(tactic| first
  | assumption
  | (refine Own.atL (h0 := ?_) (L := ?_) ?_ 0 ?_; rotate_left; rotate_left; assumption; rfl)
  | (refine Own.atL (h0 := ?_) (L := ?_) ?_ 1 ?_; rotate_left; rotate_left; assumption; rfl)
  | (refine Own.atL (h0 := ?_) (L := ?_) ?_ 2 ?_; rotate_left; rotate_left; assumption; rfl)
  | (refine Own.atL (h0 := ?_) (L := ?_) ?_ 3 ?_; rotate_left; rotate_left; assumption; rfl)
  | (refine Own.atL (h0 := ?_) (L := ?_) ?_ 4 ?_; rotate_left; rotate_left; assumption; rfl)
  | (refine Own.atL (h0 := ?_) (L := ?_) ?_ 5 ?_; rotate_left; rotate_left; assumption; rfl)
  | (refine Own.atL (h0 := ?_) (L := ?_) ?_ 6 ?_; rotate_left; rotate_left; assumption; rfl)
  | (refine Own.atL (h0 := ?_) (L := ?_) ?_ 7 ?_; rotate_left; rotate_left; assumption; rfl)
  | (refine Own.atL (h0 := ?_) (L := ?_) ?_ 8 ?_; rotate_left; rotate_left; assumption; rfl)
  | (refine Own.atL (h0 := ?_) (L := ?_) ?_ 9 ?_; rotate_left; rotate_left; assumption; rfl)
  | (refine Own.getL (h0 := ?_) (L := ?_) ?_ ?_; rotate_left; rotate_left; assumption; assumption))
local macro_rules | `(tactic| walk_at "il") => `(tactic| first
  | (refine Own.isL (h0 := ?_) (L := ?_) (l := ?_) ?_ 0 ?_; rotate_left; rotate_left; rotate_left; assumption; rfl)
  | (refine Own.isL (h0 := ?_) (L := ?_) (l := ?_) ?_ 1 ?_; rotate_left; rotate_left; rotate_left; assumption; rfl)
  | (refine Own.isL (h0 := ?_) (L := ?_) (l := ?_) ?_ 2 ?_; rotate_left; rotate_left; rotate_left; assumption; rfl)
  | (refine Own.isL (h0 := ?_) (L := ?_) (l := ?_) ?_ 3 ?_; rotate_left; rotate_left; rotate_left; assumption; rfl)
  | (refine Own.isL (h0 := ?_) (L := ?_) (l := ?_) ?_ 4 ?_; rotate_left; rotate_left; rotate_left; assumption; rfl)
  | (refine Own.isL (h0 := ?_) (L := ?_) (l := ?_) ?_ 5 ?_; rotate_left; rotate_left; rotate_left; assumption; rfl)
  | (refine Own.isL (h0 := ?_) (L := ?_) (l := ?_) ?_ 6 ?_; rotate_left; rotate_left; rotate_left; assumption; rfl)
  | (refine Own.isL (h0 := ?_) (L := ?_) (l := ?_) ?_ 7 ?_; rotate_left; rotate_left; rotate_left; assumption; rfl)
  | (refine Own.isL (h0 := ?_) (L := ?_) (l := ?_) ?_ 8 ?_; rotate_left; rotate_left; rotate_left; assumption; rfl)
  | (refine Own.isL (h0 := ?_) (L := ?_) (l := ?_) ?_ 9 ?_; rotate_left; rotate_left; rotate_left; assumption; rfl))
local macro_rules | `(tactic| walk_at "bd") => `(tactic| first | assumption | omega | (simp; done) | (simp; omega) | (simp [*]; done) | (simp [*]; omega))
local macro_rules | `(tactic| walk_at "w") => `(tactic| first
  | with_reducible refine w_seq ?_
  | with_reducible refine w_asg ?_
  | with_reducible refine w_cons ?_
  | with_reducible refine w_nil ?_
  | with_reducible refine w_c ?_
  | ((with_reducible refine w_var (d := ?_) ?_ ?_); rotate_left; rfl)
  | with_reducible refine w_bin ?_
  | with_reducible refine w_call ?_
  | with_reducible refine w_if ?_
  | with_reducible refine w_B ?_
  | with_reducible refine w_unB ?_
  | with_reducible refine w_ret ?_
  | with_reducible refine w_drop ?_
  | with_reducible refine w_skip ?_
  | with_reducible refine w_eq (dAdd_int _ _ _) ?_
  | with_reducible refine w_eq (dSub_int _ _ _) ?_
  | with_reducible refine w_eq (dEq_int _ _ _) ?_
  | with_reducible refine w_eq (dEq_str _ _ _) ?_
  | with_reducible refine w_eq (dNe_strs _ _ _) ?_
  | with_reducible refine w_eq (dEq_bls _ _ _) ?_
  | with_reducible refine w_eq (dNe_bls _ _ _) ?_
  | with_reducible refine w_eq (dLt_int _ _ _) ?_
  | with_reducible refine w_eq (dLe_int _ _ _) ?_
  | with_reducible refine w_eq (dGt_int _ _ _) ?_
  | with_reducible refine w_eq (dGe_int _ _ _) ?_
  | with_reducible refine w_eq (dNe_int _ _ _) ?_
  | ((with_reducible refine w_mod ?_ ?_); (first | assumption | decide | omega))
  | ((with_reducible refine w_fdiv ?_ ?_); (first | assumption | decide | omega))
  | ((with_reducible refine w_mulS ?_ ?_); (first | decide | omega))
  | ((with_reducible refine w_addS ?_ ?_); (first | assumption | decide | omega))
  | ((with_reducible refine w_lenS ?_ ?_); (first | assumption | decide | omega))
  | ((with_reducible refine w_slS ?_ ?_); (first | assumption | decide | omega))
  | with_reducible refine w_lenTm ?_
  | with_reducible refine w_eq (dLen_tup _ _) ?_
  | with_reducible refine w_eq (dSl_tup _ _ _ _) ?_
  | with_reducible refine w_eq (dMax_ev _ _ _) ?_
  | with_reducible refine w_eq (dMin_ev _ _ _) ?_
  | with_reducible refine w_eq (dAbs_ev _ _) ?_
  | with_reducible refine w_not ?_
  | with_reducible refine w_and ?_
  | with_reducible refine w_or ?_
  | with_reducible refine br_n ?_
  | with_reducible refine br_tt ?_
  | with_reducible refine br_ff ?_
  | ((with_reducible refine br_dt ?_ ?_); (first | assumption | omega | rfl))
  | ((with_reducible refine br_df ?_ ?_); (first | assumption | omega))
  | with_reducible refine w_tup ?_
  | ((with_reducible refine w_toTup ?_ ?_); exact (by simp))
  | with_reducible refine w_lst ?_
  | with_reducible refine w_lc ?_
  | with_reducible refine w_for ?_
  | with_reducible refine w_range1 ?_
  | with_reducible refine w_range2 ?_
  | ((with_reducible refine w_dR1 ?_ ?_); (first | decide | omega))
  | ((with_reducible refine w_dR2 ?_ ?_); (first | decide | omega))
  | with_reducible refine w_iter ?_
  | with_reducible refine w_eq (iter1_tup _ _) ?_
  | with_reducible refine w_eq (iter1_str _ _) ?_
  | with_reducible refine w_sl ?_
  | with_reducible refine w_no ?_
  | with_reducible refine w_some ?_
  | with_reducible refine w_unI ?_
  | with_reducible refine w_meth ?_
  | with_reducible refine w_isi ?_
  | with_reducible refine w_zip ?_
  | with_reducible refine w_ifE ?_
  | with_reducible refine w_andV ?_
  | with_reducible refine w_orV ?_
  | with_reducible refine w_notV ?_
  | with_reducible refine w_andK ?_
  | with_reducible refine w_orK ?_
  | with_reducible refine w_notK ?_
  | with_reducible refine w_revL ?_
  | with_reducible refine w_listRg1 ?_
  | with_reducible refine w_tindex ?_
  | with_reducible refine w_setIx ?_
  | with_reducible refine w_un ?_
  | with_reducible refine w_rev1 ?_
  | with_reducible refine w_rev2 ?_
  | with_reducible refine w_chain ?_
  | with_reducible refine w_chK ?_
  | with_reducible refine w_retN ?_
  | with_reducible refine w_brk ?_
  | with_reducible refine w_cont ?_
  | with_reducible refine w_asgT ?_
  | with_reducible refine w_eq (isi_str_str _ _) ?_
  | with_reducible refine w_eq (isi_int_int _ _) ?_
  | with_reducible refine w_eq (isi_tup_tup _ _) ?_
  | with_reducible refine w_eq (isi_bool_int _ _) ?_
  | with_reducible refine w_eq (isi_str_int _ _) ?_
  | ((with_reducible refine w_lenLm (α := ?_) (f := ?_) (l := ?_) ?_ ?_); rotate_left; rotate_left; rotate_left; walk_at "gl")
  | ((with_reducible refine w_lenL (l := ?_) ?_ ?_); rotate_left; walk_at "gl")
  | ((with_reducible refine w_iterL (l := ?_) ?_ ?_); rotate_left; walk_at "gl"; dsimp only)
  | ((with_reducible refine w_tupL (l := ?_) ?_ ?_); rotate_left; walk_at "gl")
  | ((with_reducible refine w_ixT (d := ?_) ?_ ?_); rotate_left; (first | with_reducible assumption | rfl))
  | ((with_reducible refine w_ixL (l := ?_) (d := ?_) ?_ ?_ ?_); rotate_left; rotate_left; walk_at "gl"; (first | with_reducible assumption | rfl))
  | ((with_reducible refine w_addT ?_ ?_); walk_at "bd")
  | ((with_reducible refine ⟨?_, ?_⟩); (with_reducible (show isListD (.ref _) _ = true)); walk_at "il")
  | with_reducible refine w_tryK ?_
  | with_reducible refine w_raise ?_
  | with_reducible refine w_raise0 ?_
  | with_reducible refine w_isX ?_
  | ((with_reducible refine w_isXK (k := ?_) ?_ ?_); rotate_left; (first | with_reducible exact lkA | (apply lkB; decide +kernel; exact lkA) | (apply lkB; decide +kernel; apply lkB; decide +kernel; exact lkA) | (apply lkB; decide +kernel; apply lkB; decide +kernel; apply lkB; decide +kernel; exact lkA)))
  | with_reducible refine w_xf ?_
  | ((with_reducible refine w_xfK ?_ ?_ ?_); (exact List.mem_cons_self); (decide))
  | with_reducible refine w_eq (isN_xo _) ?_
  | with_reducible refine w_eq (dNeg_int _ _) ?_)
local macro_rules | `(tactic| walk_at "go") => `(tactic| (repeat (walk_at "w")); try dsimp only [List.set])
local macro_rules | `(tactic| walk_at "fn") => `(tactic| ((refine w_fun ?_); simp only [startD, List.map_cons, List.map_nil, List.reduceReplicate, Nat.reduceSub, List.cons_append, List.nil_append]; walk_at "go"))
theorem sq_le2 {k : Int} (h : 0 ≤ k ∧ k ≤ 200) : 0 ≤ k * k ∧ k * k ≤ 40000 := ⟨Int.mul_nonneg h.1 h.1, Int.le_trans (Int.mul_le_mul h.2 h.2 h.1 (by decide)) (by decide)⟩
theorem c_mix2 {c k : Int} (hc : Cell c) (hk : 0 ≤ k ∧ k ≤ 200) {h : MH} : Sat (m_mix_1b9e1 [.int c, .int k] h) (fun d h' => h' = h ∧ ∃ v, d = .int v ∧ 0 ≤ v ∧ v < 2147483648) noX := by
  have hq := sq_le2 hk
  walk_at "fn"
  refine w_mulB (a := 1048577) (b := 64) ?_ (bits_small (by decide) (by decide)) (by decide) ?_
  · rw [Int.add_assoc]
    exact bits_addS hc (by omega) (by omega)
  walk_at "go"
  have hb := mod_in ((c + 1 + k * k) * 48271) (n := 2147483629) (by decide)
  generalize (c + 1 + k * k) * 48271 % 2147483629 = b at hb
  walk_at "go"
  have h2 := mod_in (b * (b / 128 + 69621 * k + 16807)) (n := 2147483587) (by decide)
  exact ⟨rfl, _, rfl, h2.1, by omega⟩
theorem c_tape2 {c : Int} (hc : Cell c) {n : Nat} (hn : n ≤ 200) {h : MH} : Sat (m_tape_92891 [.int c, .int n] h) (fun d h' => ∃ i l, d = .ref i ∧ Own h h' [(i, l)] ∧ Tp l) noX := by
  walk_at "fn"
  refine o_new (Own.nil h) (by simp) fun i h1 o1 => ?_
  walk_at "go"
  refine w_loop0 (fun k ρ h' => ∃ l r o4, ρ = [some (.int c), some (.int n), some (.ref i), some (.int r), o4] ∧ Own h h' [(i, l)] ∧ Tp l ∧ l.length = k) ⟨[], c, none, rfl, o1, Tp.nil, rfl⟩ (fun _ _ _ _ => rfl) ?_ ?_
  · rintro k d ρ h' hd ⟨l, r, o4, rfl, o, tl, hl⟩
    obtain ⟨hk, rfl⟩ := rangeD_get hd
    refine ⟨_, rfl, ?_⟩
    rw [Int.toNat_natCast] at hk
    dsimp only [List.set]
    walk_at "go"
    refine w_pow (n := 18) (by decide) ?_
    walk_at "go"
    refine br_d (fun c => ?_) (fun c => ?_)
    · walk_at "go"
      refine o_app o 0 rfl (by omega) fun h2 o2 => ?_
      walk_at "go"
      exact ⟨_, _, _, rfl, o2, tl.app (by have := mod_in r (n := 1000003) (by decide); omega), by simp [hl]⟩
    · walk_at "go"
      refine (c_mix2 hc (by omega)).mono ?_
      rintro d h2 ⟨rfl, v, rfl, hv⟩
      walk_at "go"
      refine o_app o 0 rfl (by omega) fun h2 o2 => ?_
      exact ⟨_, _, _, rfl, o2, tl.app hv, by simp [hl]⟩
  · rintro ρ h' ⟨l, r, o4, rfl, o, tl, hl⟩
    walk_at "go"
    refine o_rev o (o.atL 0 rfl) fun j h2 o2 => ?_
    exact ⟨j, _, rfl, o2.head, tl.rev⟩
/-! turners drawn -/
def rD (p : Str × List It) : D := .tup [.str p.1, .tup (p.2.map It.toD)]
structure ROk (rl : TRl) (w : Nat) : Prop where
  len : rl.length ≤ 20
  nm : ∀ p ∈ rl, NamOk p.1
  its : ∀ p ∈ rl, p.2.length ≤ 100 ∧ ∀ it ∈ p.2, it.ok w
theorem cc_turner {sc : List Int} (hb : ∀ z ∈ sc, Cell z) {h0 : MH} (g0 : getL h0 0 = some (sc.map D.int)) {ns : List Str} {ip : Nat} (hns : ∀ x ∈ ns, W4 20 x) (h9 : ns.length = 9) {h : MH} (gp : getL h ip = some (ns.map .str)) (hh : h0 <+: h) :
    Sat (m_turner_aa784 [.ref 0, .int 1, .int 9, .ref ip, .int 3] h) (fun d h' => h <+: h' ∧ ∃ rl : TRl, d = .tup (rl.map rD) ∧ ROk rl 3) noX := by
  have gs := pre_getL hh g0
  walk_at "fn"
  refine (c_cell_at hb gs (by decide)).mono ?_
  rintro d h ⟨rfl, c0, rfl, hc0⟩
  walk_at "go"
  have hm := mod_in c0 (n := 9 + 1) (by decide)
  refine o_new (Own.nil h) (by simp) fun iR h1 o1 => ?_
  walk_at "go"
  refine w_loop0 (fun k ρ h' => ∃ (o7 o8 o9 : Option D) (rl : TRl), ρ = [some (.ref 0), some (.int 1), some (.int 9), some (.ref ip), some (.int 3), some (.int c0), some (.ref iR), o7, o8, o9] ∧ Own h h' [(iR, rl.map rD)] ∧ rl.length = k ∧ (∀ p ∈ rl, NamOk p.1 ∧ p.2.length ≤ 100 ∧ ∀ it ∈ p.2, it.ok 3)) ⟨none, none, none, [], rfl, o1, rfl, fun p hp => by simp at hp⟩ (fun _ _ _ _ => rfl) ?_ ?_
  · rintro k d ρ h2 hd ⟨o7, o8, o9, rl, rfl, ow, hk, hrl⟩
    obtain ⟨hkn, rfl⟩ := rangeD_get hd
    refine ⟨_, rfl, ?_⟩
    dsimp only [List.set]
    walk_at "go"
    refine (c_cell_at hb (ow.getL gs) (by omega)).mono ?_
    rintro d h3 ⟨rfl, c3, rfl, hc3⟩
    walk_at "go"
    refine (c_tape2 (n := 120) hc3 (by decide)).mono ?_
    rintro d h4 ⟨it, tl, rfl, o4, htl⟩
    have o4' := ow.trans o4
    walk_at "go"
    refine (c_next o4' 0 rfl htl (by decide)).mono ?_
    rintro d h5 ⟨v, tl5, rfl, v0, v1, htl5, o5⟩
    have hix := mod_in (c0 / 16 + 2 * (0 + (k : Int))) (n := 9) (by decide)
    obtain ⟨x, hx, ax⟩ := pool_at h9 hix.1 hix.2
    have gp5 := o5.getL gp
    obtain ⟨dp, rfl⟩ : ∃ dp : Nat, v = (dp : Int) := ⟨v.toNat, by omega⟩
    walk_at "go"
    refine (cc_items hns h9 gp 100 0 _ tl5 h5 dp (by omega) o5 rfl htl5).mono ?_
    rintro d h6 ⟨its, tl6, rfl, htl6, o6, hi3, hits⟩
    walk_at "go"
    refine o_app o6 1 rfl (by simp; omega) fun h7 o7 => ?_
    have e7 : D.tup [.str x, .tup (its.map It.toD)] = rD (x, its) := rfl
    dsimp only [List.set, List.cons_append, List.nil_append] at o7
    rw [e7, map_app1] at o7
    exact ⟨_, _, _, _, rfl, o7.tail, by simp [hk], mem_app hrl ⟨(hns x hx).nam, by simp; omega, fun it hit => it_mono (hits it hit) (by omega)⟩⟩
  · rintro ρ h2 ⟨o7, o8, o9, rl, rfl, ow, hk, hrl⟩
    rw [rangeD_length] at hk
    walk_at "go"
    exact ⟨ow.pre, rl, rfl, by omega, fun p hp => (hrl p hp).1, fun p hp => (hrl p hp).2⟩
theorem cc_deepened {rl : TRl} (hr : ROk rl 3) {c : Int} (hc : Cell c) {ns : List Str} {ip : Nat} (hns : ∀ x ∈ ns, W4 20 x) (h9 : ns.length = 9) {h : MH} (gp : getL h ip = some (ns.map .str)) :
    Sat (m_deepened_b2bfe [.tup (rl.map rD), .int c, .ref ip, .int 4] h) (fun d h' => h <+: h' ∧ ∃ rl : TRl, d = .tup (rl.map rD) ∧ ROk rl 4) noX := by
  have hr4 : ROk rl 4 := ⟨hr.len, hr.nm, fun p hp => ⟨(hr.its p hp).1, fun it hit => it_mono ((hr.its p hp).2 it hit) (by decide)⟩⟩
  walk_at "fn"
  refine (c_tape2 (n := 20) hc (by decide)).mono ?_
  rintro d h1 ⟨it, tl, rfl, o1, htl⟩
  walk_at "go"
  refine (c_next o1 0 rfl htl (by decide)).mono ?_
  rintro d h2 ⟨v, tl2, rfl, v0, v1, htl2, o2⟩
  walk_at "go"
  refine br_d (fun q => ?_) (fun q => ?_)
  · walk_at "go"
    exact ⟨o2.pre, rl, rfl, hr4⟩
  walk_at "go"
  refine br_d (fun q2 => ?_) (fun q2 => ?_)
  · walk_at "go"
    exact ⟨o2.pre, rl, rfl, hr4⟩
  walk_at "go"
  refine (c_next o2 0 rfl htl2 (by decide)).mono ?_
  rintro d h3 ⟨v3, tl3, rfl, v30, v31, htl3, o3⟩
  walk_at "go"
  refine w_loop0 (fun k ρ h' => ∃ (o6 : Option D) (its : List It) (tl : List D), ρ = [some (.tup (rl.map rD)), some (.int c), some (.ref ip), some (.int 4), some (.ref it), some (.tup (its.map It.toD)), o6] ∧ Tp tl ∧ Own h h' [(it, tl)] ∧ its.length ≤ 2 ∧ ∀ i ∈ its, i.ok k) ⟨none, [.hole], tl3, rfl, htl3, o3, by simp, fun i hi => by rw [List.mem_singleton.mp hi]; trivial⟩ (fun _ _ _ _ => rfl) ?_ ?_
  · rintro k d ρ h4 hd ⟨o6, its, tl4, rfl, htl4, ow, hil, hits⟩
    obtain ⟨hk, rfl⟩ := rangeD_get hd
    refine ⟨_, rfl, ?_⟩
    dsimp only [List.set]
    walk_at "go"
    refine (c_next ow 0 rfl htl4 (by decide)).mono ?_
    rintro d h5 ⟨v5, tl5, rfl, v50, v51, htl5, o5⟩
    obtain ⟨x, hx, ax⟩ := pool_at h9 v50 v51
    have gp5 := o5.getL gp
    walk_at "go"
    refine (c_next o5 0 rfl htl5 (by decide)).mono ?_
    rintro d h6 ⟨v6, tl6, rfl, v60, v61, htl6, o6'⟩
    have e7 : D.tup [.str x, .tup (its.map It.toD)] = (It.nd x its).toD := (it_nd x its).symm
    have hok : (It.nd x its).ok (k + 1) := ⟨(hns x hx).nam, by omega, hits⟩
    walk_at "go"
    refine br_d (fun q3 => ?_) (fun q3 => ?_)
    · walk_at "go"
      refine w_addT (by simp) ?_
      refine ⟨some (.int (0 + (k : Int))), [It.nd x its, .hole], tl6, ?_, htl6, o6', by simp, fun i hi => ?_⟩
      · rw [e7]; rfl
      · simp only [List.mem_cons, List.not_mem_nil, or_false] at hi
        rcases hi with rfl | rfl
        · exact hok
        · trivial
    · walk_at "go"
      refine ⟨some (.int (0 + (k : Int))), [It.nd x its], tl6, ?_, htl6, o6', by simp, fun i hi => ?_⟩
      · rw [e7]; rfl
      · rw [List.mem_singleton.mp hi]; exact hok
  · rintro ρ h4 ⟨o6, its, tl4, rfl, htl4, ow, hil, hits⟩
    rw [rangeD_length] at hits
    cases rl with
    | nil => exact absurd (show ((([] : TRl).length : Nat) : Int) = 0 from rfl) q2
    | cons p rl' =>
      have a1 : atI ((p :: rl').map rD) 0 = some (rD p) := atI_at (k := 0) rfl
      walk_at "go"
      refine w_ixT (d := .str p.1) rfl ?_
      walk_at "go"
      have ec : cutD ((p :: rl').map rD) (some 1) none = rl'.map rD := by
        have hx : cutD ((p :: rl').map rD) (some ((1 : Nat) : Int)) none = ((p :: rl').map rD).drop 1 := by
          unfold cutD
          rw [HT.sIx_none, HT.sIx_nat]
          have hl : 1 ≤ ((p :: rl').map rD).length := by simp
          rw [Nat.min_eq_left hl, List.take_of_length_le (by simp)]
        exact hx
      rw [ec]
      have hlen := hr.len
      refine w_addT (by simp at hlen ⊢; omega) ?_
      refine ⟨ow.pre, (p.1, its) :: rl', rfl, by simpa using hr.len, fun q hq => ?_, fun q hq => ?_⟩
      · rcases List.mem_cons.mp hq with rfl | hq
        · exact hr.nm p List.mem_cons_self
        · exact hr.nm q (List.mem_cons_of_mem _ hq)
      · rcases List.mem_cons.mp hq with rfl | hq
        · exact ⟨by simp; omega, fun i hi => it_mono (hits i hi) (by omega)⟩
        · exact hr4.its q (List.mem_cons_of_mem _ hq)
end Mi

namespace Mi
open PySem L2
/-! == and in of plain data: None, whole numbers, texts, tuples of these. -/
mutual
def pln : Nat → D → Prop
  | _, .non => True
  | _, .int _ => True
  | _, .str x => PyData.strOk x = true
  | n, .tup l => 1 ≤ n ∧ plns (n - 1) l
  | _, .bl _ => False
  | _, .ref _ => False
  | _, .xo _ _ _ => False
def plns : Nat → List D → Prop
  | _, [] => True
  | n, d :: l => pln n d ∧ plns n l
end
mutual
def pyD : D → PyData
  | .non => .none
  | .int i => .int i
  | .str x => .str x
  | .tup l => .tuple (pyDs l)
  | .bl _ => .none
  | .ref _ => .none
  | .xo _ _ _ => .none
def pyDs : List D → List PyData
  | [] => []
  | d :: l => pyD d :: pyDs l
end
theorem plns_iff {n : Nat} : ∀ {l : List D}, plns n l ↔ ∀ d ∈ l, pln n d
  | [] => by simp [plns]
  | d :: l => by rw [plns, plns_iff (l := l)]; simp
theorem pyDs_eq : ∀ l : List D, pyDs l = l.map pyD
  | [] => rfl
  | d :: l => by rw [pyDs, pyDs_eq l]; rfl
mutual
theorem pyOf_pln : ∀ (n m : Nat) (h : MH) (d : D), pln n d → n < m → pyOf m h d = some (pyD d)
  | n, 0, h, d, _, hm => by omega
  | n, m + 1, h, .non, _, _ => rfl
  | n, m + 1, h, .int i, _, _ => rfl
  | n, m + 1, h, .str x, _, _ => rfl
  | n, m + 1, h, .tup l, hp, hm => by
    obtain ⟨h1, h2⟩ := (hp : 1 ≤ n ∧ plns (n - 1) l)
    show (allSome (l.map (pyOf m h))).map PyData.tuple = _
    rw [pyOfs_pln (n - 1) m h l h2 (by omega)]
    rfl
  | n, m + 1, h, .bl _, hp, _ => False.elim hp
  | n, m + 1, h, .ref _, hp, _ => False.elim hp
  | n, m + 1, h, .xo _ _ _, hp, _ => False.elim hp
theorem pyOfs_pln : ∀ (n m : Nat) (h : MH) (l : List D), plns n l → n < m → allSome (l.map (pyOf m h)) = some (pyDs l)
  | n, m, h, [], _, _ => rfl
  | n, m, h, d :: l, hp, hm => by
    obtain ⟨h1, h2⟩ := hp
    rw [List.map_cons, pyOf_pln n m h d h1 hm]
    show (allSome (l.map (pyOf m h))).map (pyD d :: ·) = _
    rw [pyOfs_pln n m h l h2 hm]
    rfl
end
mutual
theorem py_lay : ∀ (n : Nat) (d : D), pln n d → (pyD d).canLay0 = true ∧ (pyD d).depth ≤ n
  | n, .non, _ => ⟨rfl, Nat.zero_le _⟩
  | n, .int i, _ => ⟨rfl, Nat.zero_le _⟩
  | n, .str x, h => ⟨h, Nat.zero_le _⟩
  | n, .tup l, hp => by
    obtain ⟨h1, h2⟩ := (hp : 1 ≤ n ∧ plns (n - 1) l)
    obtain ⟨h3, h4⟩ := pys_lay (n - 1) l h2
    rw [pyD]
    refine ⟨by simpa [PyData.canLay0] using h3, ?_⟩
    simp only [PyData.depth]
    omega
  | n, .bl _, hp => False.elim hp
  | n, .ref _, hp => False.elim hp
  | n, .xo _ _ _, hp => False.elim hp
theorem pys_lay : ∀ (n : Nat) (l : List D), plns n l → PyData.canLayAll0 (pyDs l) = true ∧ PyData.depthAll (pyDs l) ≤ n
  | n, [], _ => ⟨rfl, Nat.zero_le _⟩
  | n, d :: l, hp => by
    obtain ⟨h1, h2⟩ := py_lay n d hp.1
    obtain ⟨h3, h4⟩ := pys_lay n l hp.2
    rw [pyDs]
    refine ⟨by rw [PyData.canLayAll0, h1, h3]; rfl, ?_⟩
    rw [PyData.depthAll]
    omega
end
theorem py_shaped {n : Nat} {d : D} (h : pln n d) (hn : n ≤ 64) : SeqAt.shaped (pyD d) = true := by
  obtain ⟨h1, h2⟩ := py_lay n d h
  unfold SeqAt.shaped
  rw [h1]
  simp
  omega
mutual
theorem py_eqv : ∀ (n m : Nat) (a b : D), pln n a → pln m b → PyData.eqv (pyD a) (pyD b) = decide (a = b)
  | n, m, a, b, ha, hb => by
    cases a with
    | non => cases b with
      | non => rfl
      | int i => rfl
      | str x => rfl
      | tup l => rfl
      | _ => exact False.elim hb
    | int i => cases b with
      | int j => simp only [pyD, PyData.eqv]; rw [Bool.eq_iff_iff]; simp
      | non => rfl
      | str x => rfl
      | tup l => rfl
      | _ => exact False.elim hb
    | str x => cases b with
      | str y => simp only [pyD, PyData.eqv]; rw [Bool.eq_iff_iff]; simp
      | non => rfl
      | int i => rfl
      | tup l => rfl
      | _ => exact False.elim hb
    | tup l => cases b with
      | tup k =>
        obtain ⟨h1, h2⟩ := (ha : 1 ≤ n ∧ plns (n - 1) l)
        obtain ⟨h3, h4⟩ := (hb : 1 ≤ m ∧ plns (m - 1) k)
        simp only [pyD, PyData.eqv]
        rw [py_eqvs (n - 1) (m - 1) l k h2 h4]
        rw [Bool.eq_iff_iff]; simp
      | non => rfl
      | int i => rfl
      | str x => rfl
      | _ => exact False.elim hb
    | bl _ => exact False.elim ha
    | ref _ => exact False.elim ha
    | xo _ _ _ => exact False.elim ha
theorem py_eqvs : ∀ (n m : Nat) (a b : List D), plns n a → plns m b → PyData.eqvAll (pyDs a) (pyDs b) = decide (a = b)
  | n, m, [], [], _, _ => rfl
  | n, m, [], _ :: _, _, _ => rfl
  | n, m, _ :: _, [], _, _ => rfl
  | n, m, x :: a, y :: b, ha, hb => by
    rw [pyDs, pyDs, PyData.eqvAll, py_eqv n m x y ha.1 hb.1, py_eqvs n m a b ha.2 hb.2, Bool.eq_iff_iff]
    simp
end
theorem eqD_pln {n : Nat} {a b : D} {h : MH} (ha : pln n a) (hb : pln n b) (hn : n ≤ 59) : eqD a b h = some (decide (a = b)) := by
  unfold eqD
  split
  · rfl
  · rw [pyOf_pln n 60 h a ha (by omega), pyOf_pln n 60 h b hb (by omega)]
    simp only
    rw [if_pos ⟨py_shaped ha (by omega), py_shaped hb (by omega)⟩, py_eqv n n a b ha hb]
theorem w_eqP {n : Nat} {a b : D} {h : MH} {Q : D → MH → Prop} {E : XE} (ha : pln n a) (hb : pln n b) (hn : n ≤ 59) (q : Q (.bl (decide (a = b))) h) : Sat (dEq a b h) Q E := w_eq (dEq_of (eqD_pln ha hb hn)) q
theorem w_neP {n : Nat} {a b : D} {h : MH} {Q : D → MH → Prop} {E : XE} (ha : pln n a) (hb : pln n b) (hn : n ≤ 59) (q : Q (.bl (!decide (a = b))) h) : Sat (dNe a b h) Q E := w_eq (dNe_of (eqD_pln ha hb hn)) q
theorem eqF_pln {n : Nat} {a b : D} (ha : pln n a) (hb : pln n b) (fa : flatD a = true) (fb : flatD b = true) : eqF b a = decide (b = a) := by
  cases a <;> cases b <;> simp only [eqF, flatD, pln] at * <;> first | cases fa; done | cases fb; done | exact ha.elim | exact hb.elim | rfl | (rw [Bool.eq_iff_iff]; simp; done)
theorem inD_pln {n : Nat} {a : D} {l : List D} {i : Nat} {h : MH} (ha : pln n a) (hl : plns n l) (hn : n ≤ 58) (e : getL h i = some l) : inD a (.ref i) h = some (decide (a ∈ l)) := by
  have hl' := plns_iff.mp hl
  have gen : (if flatD a = true ∧ l.all flatD = true then some (l.any fun y => eqF y a) else match pyOf 60 h a, pyOf 60 h (.ref i) with
      | some d, some (.list es) => if SeqAt.shaped d = true ∧ SeqAt.shaped (.list es) = true then some (es.any fun z => PyData.eqv z d) else none
      | _, _ => none) = some (decide (a ∈ l)) := by
    split
    · rename_i c
      have fl := List.all_eq_true.mp c.2
      rw [Option.some.injEq, Bool.eq_iff_iff, List.any_eq_true, decide_eq_true_iff]
      constructor
      · rintro ⟨y, hy, e⟩
        rw [eqF_pln ha (hl' y hy) c.1 (fl y hy), decide_eq_true_iff] at e
        exact e ▸ hy
      · intro hx
        exact ⟨a, hx, by rw [eqF_pln ha ha c.1 c.1]; simp⟩
    · have e2 : pyOf 60 h (.ref i) = some (.list (pyDs l)) := by
        show ((getL h i).bind fun l => (allSome (l.map (pyOf 59 h))).map PyData.list) = _
        rw [e]
        show (allSome (l.map (pyOf 59 h))).map PyData.list = _
        rw [pyOfs_pln n 59 h l hl (by omega)]
        rfl
      rw [pyOf_pln n 60 h a ha (by omega), e2]
      simp only
      have hs : SeqAt.shaped (.list (pyDs l)) = true := by
        obtain ⟨h3, h4⟩ := pys_lay n l hl
        unfold SeqAt.shaped
        rw [show (PyData.list (pyDs l)).canLay0 = PyData.canLayAll0 (pyDs l) by simp [PyData.canLay0], h3]
        have : (PyData.list (pyDs l)).depth ≤ 64 := by simp only [PyData.depth]; omega
        simpa using this
      rw [if_pos ⟨py_shaped ha (by omega), hs⟩, Option.some.injEq, Bool.eq_iff_iff, List.any_eq_true, decide_eq_true_iff]
      constructor
      · rintro ⟨z, hz, e⟩
        rw [pyDs_eq] at hz
        obtain ⟨y, hy, rfl⟩ := List.mem_map.mp hz
        rw [py_eqv n n y a (hl' y hy) ha, decide_eq_true_iff] at e
        exact e ▸ hy
      · intro hx
        refine ⟨pyD a, by rw [pyDs_eq]; exact List.mem_map.mpr ⟨a, hx, rfl⟩, ?_⟩
        rw [py_eqv n n a a ha ha]; simp
  cases a <;> simp only [inD, seqOf, e] <;> exact gen
theorem w_inP {n : Nat} {a : D} {l : List D} {i : Nat} {h : MH} {Q : D → MH → Prop} {E : XE} (ha : pln n a) (hl : plns n l) (hn : n ≤ 58) (e : getL h i = some l) (q : Q (.bl (decide (a ∈ l))) h) : Sat (dIn a (.ref i) h) Q E := w_eq (by simp only [dIn, inD_pln ha hl hn e]) q
theorem w_ninP {n : Nat} {a : D} {l : List D} {i : Nat} {h : MH} {Q : D → MH → Prop} {E : XE} (ha : pln n a) (hl : plns n l) (hn : n ≤ 58) (e : getL h i = some l) (q : Q (.bl (!decide (a ∈ l))) h) : Sat (dNotIn a (.ref i) h) Q E := w_eq (by simp only [dNotIn, inD_pln ha hl hn e]) q
theorem nm_strOk {x : Str} (h : Nm x) : PyData.strOk x = true := by
  unfold PyData.strOk
  rw [Array.all_eq_true']
  intro c hc
  have := h.2.2 c (by simpa using hc)
  unfold Ltr at this
  simp
  omega
end Mi

namespace Mi
open PySem L2
theorem s_ok (s : String) (h : PyData.strOk (Str.ofString s) = true := by decide +kernel) : PyData.strOk (Str.ofString s) = true := h
mutual
theorem tD_pln : ∀ p : PT, p.ok → ∀ n, 2 * p.dep ≤ n → pln n p.tD
  | .one x, h, n, hn => by rw [PT.dep] at hn; rw [PT.tD]; exact ⟨by omega, s_ok "one", nm_strOk h, True.intro⟩
  | .times p lo hi, h, n, hn => by
    rw [PT.dep] at hn; rw [PT.tD]
    exact ⟨by omega, s_ok "times", tD_pln p h.1 _ (by omega), True.intro, True.intro, True.intro⟩
  | .chain l, h, n, hn => by
    rw [PT.dep] at hn; rw [PT.tD]
    exact ⟨by omega, s_ok "chain", ⟨by omega, tDs_pln l h _ (by omega)⟩, True.intro⟩
  | .choice l, h, n, hn => by
    rw [PT.dep] at hn; rw [PT.tD]
    exact ⟨by omega, s_ok "choice", ⟨by omega, tDs_pln l h _ (by omega)⟩, True.intro⟩
  | .mixed l, h, n, hn => by
    rw [PT.dep] at hn; rw [PT.tD]
    exact ⟨by omega, s_ok "mixed", ⟨by omega, tDs_pln l h _ (by omega)⟩, True.intro⟩
theorem tDs_pln : ∀ l : List PT, PT.oks l → ∀ n, 2 * PT.deps l ≤ n → plns n (PT.tDs l)
  | [], _, _, _ => True.intro
  | p :: l, h, n, hn => by
    rw [PT.deps] at hn; rw [PT.tDs]
    exact ⟨tD_pln p h.1 n (by omega), tDs_pln l h.2 n (by omega)⟩
end
end Mi

namespace Mi
open PySem L2
def m_rows_cc517 : List D → MH → R D := mFun 2 12
 (mSeq (mAsg 2 (mCall (m_cell_at_2c4cb) (mCons (mVar 0) (mCons (mC (.int 0)) (mNil)))))
 (mSeq (mAsg 3 (mBin dMod (mVar 2) (mC (.int 11))))
 (mSeq (mAsg 4 (mLst (mNil)))
 (mSeq (mFor (mRange1 (mVar 3)) (mgName 5)
 (mSeq (mAsg 6 (mCall (m_tape_92891) (mCons (mCall (m_cell_at_2c4cb) (mCons (mVar 0) (mCons (mBin dAdd (mC (.int 2)) (mVar 5)) (mNil)))) (mCons (mC (.int 12)) (mNil)))))
 (mSeq (mAsg 7 (mBin dIx (mVar 1) (mBin dMod (mBin dAdd (mBin dFdiv (mVar 2) (mC (.int 11))) (mVar 5)) (mC (.int 9)))))
 (mSeq (mIf (mB (mBin dEq (mCall (m_next_fea17) (mCons (mVar 6) (mCons (mC (.int 9)) (mNil)))) (mC (.int 0))))
 (mAsg 7 (mBin dIx (mVar 1) (mCall (m_next_fea17) (mCons (mVar 6) (mCons (mC (.int 9)) (mNil))))))
 (mSkip))
 (mSeq (mAsg 8 (mBin dIx (mVar 1) (mCall (m_next_fea17) (mCons (mVar 6) (mCons (mC (.int 9)) (mNil))))))
 (mSeq (mAsg 9 (mBin dIx (mLst (mCons (mCall dMin (mCons (mVar 3) (mCons (mC (.int 9)) (mNil)))) (mCons (mC (.int 9)) (mNil)))) (mCall dInt (mCons (mBin dEq (mCall (m_next_fea17) (mCons (mVar 6) (mCons (mC (.int 8)) (mNil)))) (mC (.int 0))) (mNil)))))
 (mSeq (mAsg 10 (mLst (mNil)))
 (mSeq (mFor (mRange1 (mCall (m_next_fea17) (mCons (mVar 6) (mCons (mC (.int 4)) (mNil))))) (mgName 11)
 (mDrop (mMeth isListD dAppend (mVar 10) (mCons (mBin dIx (mVar 1) (mBin dMod (mBin dAdd (mBin dFdiv (mVar 2) (mC (.int 11))) (mCall (m_next_fea17) (mCons (mVar 6) (mCons (mVar 9) (mNil))))) (mC (.int 9)))) (mNil)))))
 (mDrop (mMeth isListD dAppend (mVar 4) (mCons (mTup (mCons (mVar 7) (mCons (mVar 8) (mCons (mVar 10) (mNil))))) (mNil))))))))))))
 (mRet (mVar 4))))))
def m_due_40573 : List D → MH → R D := mFun 1 5
 (mSeq (mIf (mB (mBin dEq (mCall dLen (mCons (mVar 0) (mNil))) (mC (.int 0))))
 (mRet (mC (.int 0)))
 (mSkip))
 (mSeq (mIf (mB (mBin dGt (mCall dLen (mCons (mVar 0) (mNil))) (mC (.int 8))))
 (mRet (mC (.int 8)))
 (mSkip))
 (mSeq (mAsg 1 (mLc (mIter (mVar 0)) (mgName 4) (mYes) (mBin dIx (mVar 4) (mC (.int 0))) [4]))
 (mSeq (mFor (mRange1 (mCall dLen (mCons (mVar 0) (mNil)))) (mgName 2)
 (mIf (mB (mBin dIn (mBin dIx (mVar 1) (mVar 2)) (mSl (mVar 1) (mNo) (mSome (mVar 2)))))
 (mRet (mVar 2))
 (mSkip)))
 (mSeq (mFor (mRange1 (mCall dLen (mCons (mVar 0) (mNil)))) (mgName 2)
 (mFor (mIter (mBin dIx (mBin dIx (mVar 0) (mVar 2)) (mC (.int 2)))) (mgName 3)
 (mIf (mB (mBin dNotIn (mVar 3) (mVar 1)))
 (mRet (mVar 2))
 (mSkip))))
 (mRet (mC .non)))))))
def m_pattern_fe5af : List D → MH → R D := mFun 2 5
 (mSeq (mAsg 2 (mLc (mIter (mVar 0)) (mgName 4) (mYes) (mCall (m_one_dbedc) (mCons (mVar 4) (mNil))) [4]))
 (mSeq (mAsg 3 (mCall (m_next_fea17) (mCons (mVar 1) (mCons (mC (.int 4)) (mNil)))))
 (mSeq (mIf (mOr (mB (mBin dEq (mVar 3) (mC (.int 0)))) (mB (mBin dEq (mCall dLen (mCons (mVar 2) (mNil))) (mC (.int 0)))))
 (mRet (mCall (m_chain_974c3) (mCons (mVar 2) (mNil))))
 (mSkip))
 (mSeq (mIf (mB (mBin dEq (mVar 3) (mC (.int 1))))
 (mRet (mCall (m_choice_458e9) (mCons (mVar 2) (mNil))))
 (mSkip))
 (mSeq (mIf (mB (mBin dEq (mVar 3) (mC (.int 2))))
 (mRet (mCallD (m_times_2f53e) [.non] (mCons (mCall (m_mixed_cabfe) (mCons (mVar 2) (mNil))) (mCons (mCall (m_next_fea17) (mCons (mVar 1) (mCons (mC (.int 3)) (mNil)))) (mNil)))))
 (mSkip))
 (mRet (mCall (m_chain_974c3) (mCons (mBin dAdd (mLst (mCons (mCallD (m_times_2f53e) [] (mCons (mBin dIx (mVar 2) (mC (.int 0))) (mCons (mC (.int 0)) (mCons (mC (.int 1)) (mNil))))) (mNil))) (mSl (mVar 2) (mSome (mC (.int 1))) (mNo))) (mNil)))))))))
def m_One_speaks_46a94 : List D → MH → R D := mFun 1 1
 (mRet (mLst (mCons (mFld [(Str.ofString "One")] (Str.ofString "form") (mVar 0)) (mNil))))
def m_Chain_speaks_3d286 (S : Nat → List D → MH → R D) : List D → MH → R D := mFun 1 1
 (mRet (mCall (S 4) (mCons (mFld [(Str.ofString "Chain"), (Str.ofString "Choice"), (Str.ofString "Mixed")] (Str.ofString "parts") (mVar 0)) (mNil))))
def m_Choice_speaks_61bc5 (S : Nat → List D → MH → R D) : List D → MH → R D := mFun 1 1
 (mRet (mCall (S 4) (mCons (mFld [(Str.ofString "Chain"), (Str.ofString "Choice"), (Str.ofString "Mixed")] (Str.ofString "parts") (mVar 0)) (mNil))))
def m_Mixed_speaks_bc979 (S : Nat → List D → MH → R D) : List D → MH → R D := mFun 1 1
 (mRet (mCall (S 4) (mCons (mFld [(Str.ofString "Chain"), (Str.ofString "Choice"), (Str.ofString "Mixed")] (Str.ofString "parts") (mVar 0)) (mNil))))
def m_Times_speaks_3b929 (S : Nat → List D → MH → R D) : List D → MH → R D := mFun 1 1
 (mRet (mMethI (Str.ofString "speaks") [((Str.ofString "One"), (m_One_speaks_46a94)), ((Str.ofString "Chain"), (S 0)), ((Str.ofString "Choice"), (S 1)), ((Str.ofString "Times"), (S 3)), ((Str.ofString "Mixed"), (S 2))] (mFld [(Str.ofString "Times")] (Str.ofString "part") (mVar 0)) (mNil)))
def m_all_spoken_50ba5 (S : Nat → List D → MH → R D) : List D → MH → R D := mFun 1 4
 (mSeq (mAsg 1 (mDict0))
 (mSeq (mFor (mIter (mVar 0)) (mgName 2)
 (mFor (mIter (mMethI (Str.ofString "speaks") [((Str.ofString "One"), (m_One_speaks_46a94)), ((Str.ofString "Chain"), (S 0)), ((Str.ofString "Choice"), (S 1)), ((Str.ofString "Times"), (S 3)), ((Str.ofString "Mixed"), (S 2))] (mVar 2) (mNil))) (mgName 3)
 (mDSet (mVar 1) (mVar 3) (mC (.bl true)))))
 (mRet (mCall dSortK (mCons (mVar 1) (mNil))))))
def m_scc_Chain_speaks_d27eb : Nat → Nat → List D → MH → R D
 | 0 => fun _ _ _ => .bad
 | n + 1 => fun i => match i with
   | 0 => m_Chain_speaks_3d286 (m_scc_Chain_speaks_d27eb n)
   | 1 => m_Choice_speaks_61bc5 (m_scc_Chain_speaks_d27eb n)
   | 2 => m_Mixed_speaks_bc979 (m_scc_Chain_speaks_d27eb n)
   | 3 => m_Times_speaks_3b929 (m_scc_Chain_speaks_d27eb n)
   | 4 => m_all_spoken_50ba5 (m_scc_Chain_speaks_d27eb n)
   | _ => fun _ _ => .bad
def m_book_of_964ed : List D → MH → R D := mFun 1 4
 (mSeq (mIf (mB (mBin dEq (mCall dLen (mCons (mVar 0) (mNil))) (mC (.int 0))))
 (mRaise (Str.ofString "NoBook") (Str.ofString "row") (mC (.int 0)))
 (mSkip))
 (mSeq (mIf (mB (mBin dGt (mCall dLen (mCons (mVar 0) (mNil))) (mC (.int 8))))
 (mRaise (Str.ofString "NoBook") (Str.ofString "row") (mC (.int 8)))
 (mSkip))
 (mSeq (mAsg 1 (mDict0))
 (mSeq (mFor (mRange1 (mCall dLen (mCons (mVar 0) (mNil)))) (mgName 2)
 (mSeq (mIf (mB (mBin dDIn (mBin dIx (mBin dIx (mVar 0) (mVar 2)) (mC (.int 0))) (mVar 1)))
 (mRaise (Str.ofString "NoBook") (Str.ofString "row") (mVar 2))
 (mSkip))
 (mDSet (mVar 1) (mBin dIx (mBin dIx (mVar 0) (mVar 2)) (mC (.int 0))) (mC (.bl true)))))
 (mSeq (mFor (mRange1 (mCall dLen (mCons (mVar 0) (mNil)))) (mgName 2)
 (mFor (mIter (mMethI (Str.ofString "speaks") [((Str.ofString "One"), (m_One_speaks_46a94)), ((Str.ofString "Chain"), (m_scc_Chain_speaks_d27eb 40 0)), ((Str.ofString "Choice"), (m_scc_Chain_speaks_d27eb 40 1)), ((Str.ofString "Times"), (m_scc_Chain_speaks_d27eb 40 3)), ((Str.ofString "Mixed"), (m_scc_Chain_speaks_d27eb 40 2))] (mBin dIx (mBin dIx (mVar 0) (mVar 2)) (mC (.int 2))) (mNil))) (mgName 3)
 (mIf (mB (mBin dDNotIn (mVar 3) (mVar 1)))
 (mRaise (Str.ofString "NoBook") (Str.ofString "row") (mVar 2))
 (mSkip))))
 (mRet (mCall dTuple (mCons (mVar 0) (mNil)))))))))
def m_alike_1e0ec : List D → MH → R D := mFun 3 5
 (mSeq (mIf (mB (mBin dNe (mCall dLen (mCons (mVar 0) (mNil))) (mCall dLen (mCons (mVar 1) (mNil)))))
 (mRet (mC (.bl false)))
 (mSkip))
 (mSeq (mFor (mRange1 (mCall dLen (mCons (mVar 1) (mNil)))) (mgName 3)
 (mSeq (mAsg 4 (mBin dIx (mVar 0) (mVar 3)))
 (mSeq (mIf (mOr (mNot (mB (mIsi "tuple" (mVar 4)))) (mB (mBin dNe (mCall dLen (mCons (mVar 4) (mNil))) (mC (.int 3)))))
 (mRet (mC (.bl false)))
 (mSkip))
 (mSeq (mIf (mOr (mNot (mB (mIsi "str" (mBin dIx (mVar 4) (mC (.int 0)))))) (mNot (mB (mIsi "str" (mBin dIx (mVar 4) (mC (.int 1)))))))
 (mRet (mC (.bl false)))
 (mSkip))
 (mIf (mOr (mB (mBin dNe (mBin dIx (mVar 4) (mC (.int 0))) (mBin dIx (mBin dIx (mVar 1) (mVar 3)) (mC (.int 0))))) (mOr (mB (mBin dNe (mBin dIx (mVar 4) (mC (.int 1))) (mBin dIx (mBin dIx (mVar 1) (mVar 3)) (mC (.int 1))))) (mB (mBin dNe (mMethI (Str.ofString "told") [((Str.ofString "One"), (m_One_told_38426)), ((Str.ofString "Chain"), (m_scc_Chain_told_612a9 40 0)), ((Str.ofString "Choice"), (m_scc_Chain_told_612a9 40 1)), ((Str.ofString "Times"), (m_scc_Chain_told_612a9 40 3)), ((Str.ofString "Mixed"), (m_scc_Chain_told_612a9 40 2))] (mBin dIx (mVar 4) (mC (.int 2))) (mNil)) (mBin dIx (mVar 2) (mVar 3))))))
 (mRet (mC (.bl false)))
 (mSkip))))))
 (mRet (mC (.bl true)))))
def m_refused_77372 : List D → MH → R D := mFun 2 2
 (mSeq (mIf (mOr (mNot (mB (mIsX [((Str.ofString "NoBook"), true), ((Str.ofString "NoPattern"), true)] (mVar 0)))) (mNot (mB (mIsX [((Str.ofString "NoBook"), true), ((Str.ofString "NoPattern"), true)] (mVar 0)))))
 (mRet (mC (.bl false)))
 (mSkip))
 (mSeq (mIf (mB (mIsX [((Str.ofString "NoBook"), false), ((Str.ofString "NoPattern"), true)] (mVar 0)))
 (mRet (mC (.bl false)))
 (mSkip))
 (mRet (mAndV (mIsi "int" (mXf [(Str.ofString "NoBook")] (Str.ofString "row") (mVar 0))) (mAndV (mNotV (mIsi "bool" (mXf [(Str.ofString "NoBook")] (Str.ofString "row") (mVar 0)))) (mBin dEq (mXf [(Str.ofString "NoBook")] (Str.ofString "row") (mVar 0)) (mVar 1)))))))
def m_law_afabe : List D → MH → R D := mFun 1 13
 (mSeq (mAsg 1 (mCall (m_names_c11ae) (mCons (mCall (m_cell_at_2c4cb) (mCons (mVar 0) (mCons (mC (.int 1)) (mNil)))) (mNil))))
 (mSeq (mAsg 2 (mCall (m_rows_cc517) (mCons (mVar 0) (mCons (mVar 1) (mNil)))))
 (mSeq (mAsg 3 (mLc (mRange1 (mCall dLen (mCons (mVar 2) (mNil)))) (mgName 11) (mYes) (mCall (m_tape_92891) (mCons (mCall (m_cell_at_2c4cb) (mCons (mVar 0) (mCons (mBin dAdd (mC (.int 12)) (mVar 11)) (mNil)))) (mCons (mC (.int 4)) (mNil)))) [11]))
 (mSeq (mAsg 4 (mLc (mRange1 (mCall dLen (mCons (mVar 2) (mNil)))) (mgName 11) (mYes) (mCall (m_pattern_fe5af) (mCons (mBin dIx (mBin dIx (mVar 2) (mVar 11)) (mC (.int 2))) (mCons (mBin dIx (mVar 3) (mVar 11)) (mNil)))) [11]))
 (mSeq (mAsg 5 (mLc (mIter (mVar 4)) (mgName 12) (mYes) (mMethI (Str.ofString "told") [((Str.ofString "One"), (m_One_told_38426)), ((Str.ofString "Chain"), (m_scc_Chain_told_612a9 40 0)), ((Str.ofString "Choice"), (m_scc_Chain_told_612a9 40 1)), ((Str.ofString "Times"), (m_scc_Chain_told_612a9 40 3)), ((Str.ofString "Mixed"), (m_scc_Chain_told_612a9 40 2))] (mVar 12) (mNil)) [12]))
 (mSeq (mAsg 6 (mLc (mRange1 (mCall dLen (mCons (mVar 2) (mNil)))) (mgName 11) (mYes) (mTup (mCons (mBin dIx (mBin dIx (mVar 2) (mVar 11)) (mC (.int 0))) (mCons (mBin dIx (mBin dIx (mVar 2) (mVar 11)) (mC (.int 1))) (mCons (mBin dIx (mVar 4) (mVar 11)) (mNil))))) [11]))
 (mSeq (mAsg 7 (mCall (m_due_40573) (mCons (mVar 2) (mNil))))
 (mSeq (mAsg 8 (mC .non))
 (mSeq (mAsg 9 (mC .non))
 (mSeq (mTryK [((Str.ofString "NoBook"), true), ((Str.ofString "NoPattern"), false)] 10 8 (mAsg 9 (mCall (m_book_of_964ed) (mCons (mVar 6) (mNil)))))
 (mSeq (mIf (mNot (mB (mCall (m_alike_1e0ec) (mCons (mVar 6) (mCons (mVar 2) (mCons (mVar 5) (mNil)))))))
 (mRet (mC (.bl false)))
 (mSkip))
 (mSeq (mIf (mB (mBin dNotN (mVar 7) (mC .non)))
 (mRet (mAndV (mBin dNotN (mVar 8) (mC .non)) (mCall (m_refused_77372) (mCons (mVar 8) (mCons (mVar 7) (mNil))))))
 (mSkip))
 (mSeq (mDrop (mMeth isListD dClear (mVar 6) (mNil)))
 (mRet (mAndV (mBin dIsN (mVar 8) (mC .non)) (mAndV (mIsi "tuple" (mVar 9)) (mCall (m_alike_1e0ec) (mCons (mVar 9) (mCons (mVar 2) (mCons (mVar 5) (mNil)))))))))))))))))))))
end Mi

namespace Mi
open PySem L2
local macro_rules | `(tactic| walk_at "gl") => `(tactic| first
  | assumption
  | (refine Own.atL (h0 := ?_) (L := ?_) ?_ 0 ?_; rotate_left; rotate_left; assumption; rfl)
  | (refine Own.atL (h0 := ?_) (L := ?_) ?_ 1 ?_; rotate_left; rotate_left; assumption; rfl)
  | (refine Own.atL (h0 := ?_) (L := ?_) ?_ 2 ?_; rotate_left; rotate_left; assumption; rfl)
  | (refine Own.atL (h0 := ?_) (L := ?_) ?_ 3 ?_; rotate_left; rotate_left; assumption; rfl)
  | (refine Own.atL (h0 := ?_) (L := ?_) ?_ 4 ?_; rotate_left; rotate_left; assumption; rfl)
  | (refine Own.atL (h0 := ?_) (L := ?_) ?_ 5 ?_; rotate_left; rotate_left; assumption; rfl)
  | (refine Own.atL (h0 := ?_) (L := ?_) ?_ 6 ?_; rotate_left; rotate_left; assumption; rfl)
  | (refine Own.atL (h0 := ?_) (L := ?_) ?_ 7 ?_; rotate_left; rotate_left; assumption; rfl)
  | (refine Own.atL (h0 := ?_) (L := ?_) ?_ 8 ?_; rotate_left; rotate_left; assumption; rfl)
  | (refine Own.atL (h0 := ?_) (L := ?_) ?_ 9 ?_; rotate_left; rotate_left; assumption; rfl)
  | (refine Own.getL (h0 := ?_) (L := ?_) ?_ ?_; rotate_left; rotate_left; assumption; assumption))
local macro_rules | `(tactic| walk_at "il") => `(tactic| first
  | (refine Own.isL (h0 := ?_) (L := ?_) (l := ?_) ?_ 0 ?_; rotate_left; rotate_left; rotate_left; assumption; rfl)
  | (refine Own.isL (h0 := ?_) (L := ?_) (l := ?_) ?_ 1 ?_; rotate_left; rotate_left; rotate_left; assumption; rfl)
  | (refine Own.isL (h0 := ?_) (L := ?_) (l := ?_) ?_ 2 ?_; rotate_left; rotate_left; rotate_left; assumption; rfl)
  | (refine Own.isL (h0 := ?_) (L := ?_) (l := ?_) ?_ 3 ?_; rotate_left; rotate_left; rotate_left; assumption; rfl)
  | (refine Own.isL (h0 := ?_) (L := ?_) (l := ?_) ?_ 4 ?_; rotate_left; rotate_left; rotate_left; assumption; rfl)
  | (refine Own.isL (h0 := ?_) (L := ?_) (l := ?_) ?_ 5 ?_; rotate_left; rotate_left; rotate_left; assumption; rfl)
  | (refine Own.isL (h0 := ?_) (L := ?_) (l := ?_) ?_ 6 ?_; rotate_left; rotate_left; rotate_left; assumption; rfl)
  | (refine Own.isL (h0 := ?_) (L := ?_) (l := ?_) ?_ 7 ?_; rotate_left; rotate_left; rotate_left; assumption; rfl)
  | (refine Own.isL (h0 := ?_) (L := ?_) (l := ?_) ?_ 8 ?_; rotate_left; rotate_left; rotate_left; assumption; rfl)
  | (refine Own.isL (h0 := ?_) (L := ?_) (l := ?_) ?_ 9 ?_; rotate_left; rotate_left; rotate_left; assumption; rfl))
local macro_rules | `(tactic| walk_at "bd") => `(tactic| first | assumption | omega | (simp; done) | (simp; omega) | (simp [*]; done) | (simp [*]; omega))
local macro_rules | `(tactic| walk_at "w") => `(tactic| first
  | with_reducible refine w_seq ?_
  | with_reducible refine w_asg ?_
  | with_reducible refine w_cons ?_
  | with_reducible refine w_nil ?_
  | with_reducible refine w_c ?_
  | ((with_reducible refine w_var (d := ?_) ?_ ?_); rotate_left; rfl)
  | with_reducible refine w_bin ?_
  | with_reducible refine w_call ?_
  | with_reducible refine w_if ?_
  | with_reducible refine w_B ?_
  | with_reducible refine w_unB ?_
  | with_reducible refine w_ret ?_
  | with_reducible refine w_drop ?_
  | with_reducible refine w_skip ?_
  | with_reducible refine w_eq (dAdd_int _ _ _) ?_
  | with_reducible refine w_eq (dSub_int _ _ _) ?_
  | with_reducible refine w_eq (dEq_int _ _ _) ?_
  | with_reducible refine w_eq (dEq_str _ _ _) ?_
  | with_reducible refine w_eq (dNe_strs _ _ _) ?_
  | with_reducible refine w_eq (dEq_bls _ _ _) ?_
  | with_reducible refine w_eq (dNe_bls _ _ _) ?_
  | with_reducible refine w_eq (dLt_int _ _ _) ?_
  | with_reducible refine w_eq (dLe_int _ _ _) ?_
  | with_reducible refine w_eq (dGt_int _ _ _) ?_
  | with_reducible refine w_eq (dGe_int _ _ _) ?_
  | with_reducible refine w_eq (dNe_int _ _ _) ?_
  | ((with_reducible refine w_mod ?_ ?_); (first | assumption | decide | omega))
  | ((with_reducible refine w_fdiv ?_ ?_); (first | assumption | decide | omega))
  | ((with_reducible refine w_mulS ?_ ?_); (first | decide | omega))
  | ((with_reducible refine w_addS ?_ ?_); (first | assumption | decide | omega))
  | ((with_reducible refine w_lenS ?_ ?_); (first | assumption | decide | omega))
  | ((with_reducible refine w_slS ?_ ?_); (first | assumption | decide | omega))
  | with_reducible refine w_lenTm ?_
  | with_reducible refine w_eq (dLen_tup _ _) ?_
  | with_reducible refine w_eq (dSl_tup _ _ _ _) ?_
  | with_reducible refine w_eq (dMax_ev _ _ _) ?_
  | with_reducible refine w_eq (dMin_ev _ _ _) ?_
  | with_reducible refine w_eq (dAbs_ev _ _) ?_
  | with_reducible refine w_not ?_
  | with_reducible refine w_and ?_
  | with_reducible refine w_or ?_
  | with_reducible refine br_n ?_
  | with_reducible refine br_tt ?_
  | with_reducible refine br_ff ?_
  | ((with_reducible refine br_dt ?_ ?_); (first | assumption | omega | rfl))
  | ((with_reducible refine br_df ?_ ?_); (first | assumption | omega))
  | with_reducible refine w_tup ?_
  | ((with_reducible refine w_toTup ?_ ?_); exact (by simp))
  | with_reducible refine w_lst ?_
  | with_reducible refine w_lc ?_
  | with_reducible refine w_for ?_
  | with_reducible refine w_range1 ?_
  | with_reducible refine w_range2 ?_
  | ((with_reducible refine w_dR1 ?_ ?_); (first | decide | omega))
  | ((with_reducible refine w_dR2 ?_ ?_); (first | decide | omega))
  | with_reducible refine w_iter ?_
  | with_reducible refine w_eq (iter1_tup _ _) ?_
  | with_reducible refine w_eq (iter1_str _ _) ?_
  | with_reducible refine w_sl ?_
  | with_reducible refine w_no ?_
  | with_reducible refine w_some ?_
  | with_reducible refine w_unI ?_
  | with_reducible refine w_meth ?_
  | with_reducible refine w_isi ?_
  | with_reducible refine w_zip ?_
  | with_reducible refine w_ifE ?_
  | with_reducible refine w_andV ?_
  | with_reducible refine w_orV ?_
  | with_reducible refine w_notV ?_
  | with_reducible refine w_andK ?_
  | with_reducible refine w_orK ?_
  | with_reducible refine w_notK ?_
  | with_reducible refine w_revL ?_
  | with_reducible refine w_listRg1 ?_
  | with_reducible refine w_tindex ?_
  | with_reducible refine w_setIx ?_
  | with_reducible refine w_un ?_
  | with_reducible refine w_rev1 ?_
  | with_reducible refine w_rev2 ?_
  | with_reducible refine w_chain ?_
  | with_reducible refine w_chK ?_
  | with_reducible refine w_retN ?_
  | with_reducible refine w_brk ?_
  | with_reducible refine w_cont ?_
  | with_reducible refine w_asgT ?_
  | with_reducible refine w_eq (isi_str_str _ _) ?_
  | with_reducible refine w_eq (isi_int_int _ _) ?_
  | with_reducible refine w_eq (isi_tup_tup _ _) ?_
  | with_reducible refine w_eq (isi_bool_int _ _) ?_
  | with_reducible refine w_eq (isi_str_int _ _) ?_
  | ((with_reducible refine w_lenLm (α := ?_) (f := ?_) (l := ?_) ?_ ?_); rotate_left; rotate_left; rotate_left; walk_at "gl")
  | ((with_reducible refine w_lenL (l := ?_) ?_ ?_); rotate_left; walk_at "gl")
  | ((with_reducible refine w_iterL (l := ?_) ?_ ?_); rotate_left; walk_at "gl"; dsimp only)
  | ((with_reducible refine w_tupL (l := ?_) ?_ ?_); rotate_left; walk_at "gl")
  | ((with_reducible refine w_ixT (d := ?_) ?_ ?_); rotate_left; (first | with_reducible assumption | rfl))
  | ((with_reducible refine w_ixL (l := ?_) (d := ?_) ?_ ?_ ?_); rotate_left; rotate_left; walk_at "gl"; (first | with_reducible assumption | rfl))
  | ((with_reducible refine w_addT ?_ ?_); walk_at "bd")
  | ((with_reducible refine ⟨?_, ?_⟩); (with_reducible (show isListD (.ref _) _ = true)); walk_at "il")
  | with_reducible refine w_tryK ?_
  | with_reducible refine w_raise ?_
  | with_reducible refine w_raise0 ?_
  | with_reducible refine w_isX ?_
  | ((with_reducible refine w_isXK (k := ?_) ?_ ?_); rotate_left; (first | with_reducible exact lkA | (apply lkB; decide +kernel; exact lkA) | (apply lkB; decide +kernel; apply lkB; decide +kernel; exact lkA) | (apply lkB; decide +kernel; apply lkB; decide +kernel; apply lkB; decide +kernel; exact lkA)))
  | with_reducible refine w_xf ?_
  | ((with_reducible refine w_xfK ?_ ?_ ?_); (exact List.mem_cons_self); (decide))
  | with_reducible refine w_eq (isN_xo _) ?_
  | with_reducible refine w_eq (dNeg_int _ _) ?_)
local macro_rules | `(tactic| walk_at "go") => `(tactic| (repeat (walk_at "w")); try dsimp only [List.set])
local macro_rules | `(tactic| walk_at "fn") => `(tactic| ((refine w_fun ?_); simp only [startD, List.map_cons, List.map_nil, List.reduceReplicate, Nat.reduceSub, List.cons_append, List.nil_append]; walk_at "go"))
local macro_rules | `(tactic| walk_at "lk") => `(tactic| first | with_reducible exact lkA | (apply lkB; decide +kernel; walk_at "lk"))
local macro_rules | `(tactic| walk_at "mk") => `(tactic| first | with_reducible exact mkA | (apply mkB; decide +kernel; walk_at "mk"))
local macro_rules | `(tactic| walk_at "fk") => `(tactic| first | with_reducible exact fkA | exact fkN | (apply fkB; decide +kernel; walk_at "fk"))
local macro_rules | `(tactic| walk_at "cs") => `(tactic| first | exact List.mem_cons_self | (apply List.mem_cons_of_mem; walk_at "cs"))
local macro_rules | `(tactic| walk_at "w") => `(tactic| first
  | with_reducible refine w_fld ?_
  | ((with_reducible refine w_fldK (c := ?_) (fs := ?_) (v := ?_) ?_ ?_ ?_ ?_); rotate_left; rotate_left; rotate_left; (with_reducible assumption); (walk_at "cs"); (walk_at "fk"))
  | with_reducible refine w_setFld ?_
  | with_reducible refine w_new ?_
  | with_reducible refine w_methI ?_
  | ((with_reducible refine w_methK (c := ?_) (fs := ?_) (F := ?_) ?_ ?_ ?_ ?_); rotate_left; rotate_left; rotate_left; (with_reducible assumption); (walk_at "mk"); (walk_at "fk"))
  | with_reducible refine w_isC ?_
  | ((with_reducible refine w_isCK (c := ?_) (fs := ?_) (k := ?_) ?_ ?_ ?_); rotate_left; rotate_left; rotate_left; (with_reducible assumption); (walk_at "lk"))
  | with_reducible refine w_callD ?_
  | with_reducible refine w_mDSet ?_
  | with_reducible refine w_eq (nN_non _) ?_
  | with_reducible refine w_eq (nN_int _ _) ?_
  | with_reducible refine w_eq (nN_tup _ _) ?_
  | with_reducible refine w_eq (nN_ref _ _) ?_
  | with_reducible refine w_eq (iN_non _) ?_
  | with_reducible refine w_eq (iN_int _ _) ?_
  | with_reducible refine w_eq (iN_tup _ _) ?_
  | with_reducible refine w_eq (iN_ref _ _) ?_)
/-! nine names -/
theorem w_addLs' {a b : Nat} {x y : Str} {h : MH} {Q : D → MH → Prop} {E : XE} (hx : Ls a x) (hy : Ls b y) (c : a + b ≤ 1000) (q : Ls (a + b) (x ++ y) → Q (.str (x ++ y)) h) : Sat (dAdd (.str x) (.str y) h) Q E := w_addLs hx hy c q
theorem strs_nm {ys : List D} (h : ∀ (i : Nat) y, ys[i]? = some y → ∃ x, y = .str x ∧ Nm x) : ∃ xs : List Str, ys = xs.map .str ∧ ∀ x ∈ xs, Nm x := by
  obtain ⟨xs, e, g⟩ := strs_P (S := fun _ x => Nm x) h
  exact ⟨xs, e, fun x hx => by
    obtain ⟨i, hi⟩ := List.mem_iff_getElem?.mp hx
    exact g i x hi⟩
theorem n_names9 {c : Int} {h : MH} : Sat (m_names_c11ae [.int c] h) (fun d h' => ∃ (i : Nat) (xs : List Str), d = .ref i ∧ Own h h' [(i, xs.map .str)] ∧ xs.length = 9 ∧ ∀ x ∈ xs, Nm x) noX := by
  walk_at "fn"
  refine ⟨isStrD_str _ _, ?_⟩
  walk_at "go"
  refine o_comp (fun _ y => ∃ x, y = .str x ∧ Ls 1 x) (Own.nil h) (by simp) (fun _ _ => rfl) ?_ ?_
  · intro i d h' hd _
    obtain ⟨hi, rfl⟩ := rangeD_get hd
    refine ⟨_, rfl, ?_⟩
    have hi' : i < 8 := hi
    walk_at "go"
    exact w_ltr1 ⟨rfl, _, rfl, l1_ls _⟩
  intro ys hy hp i1 h1 o1
  obtain ⟨ns, rfl, hn⟩ := strs_P (S := fun _ x => Ls 1 x) hp
  have hy8 : ns.length = 8 := by simpa using hy
  have hn' : ∀ y ∈ ns, Ls 1 y := fun y hy => by
    obtain ⟨i, hi⟩ := List.mem_iff_getElem?.mp hy
    exact hn i y hi
  have sm : (ns.map (·.length)).sum ≤ 8 := by
    rw [← hy8]
    clear hp hy hy8 o1 hn
    induction ns with
    | nil => simp
    | cons y ys ih =>
      have h1 := (hn' y List.mem_cons_self).1
      have h2 := ih fun z hz => hn' z (List.mem_cons_of_mem _ hz)
      simp only [List.map_cons, List.sum_cons, List.length_cons]
      omega
  walk_at "go"
  refine w_join (o1.atL 0 rfl) (by rw [show (Str.ofString "").length = 0 from rfl]; omega) ?_
  have hb := Ls.join hn'
  rw [hy8] at hb
  generalize Txt.join (Str.ofString "") ns = base at hb
  have hbl : base.length ≤ 8 := by rw [hb.1]; decide
  have ha8 := mod_in (c / 78) (n := 8) (by decide)
  walk_at "go"
  refine br_d (fun c1 => ?_) (fun c1 => ?_)
  · walk_at "go"
    refine o_comp (fun _ y => ∃ x, y = .str x ∧ Nm x) o1.none (by simp) (fun _ _ => rfl) ?_ ?_
    · intro i d h' hd _
      obtain ⟨hi, rfl⟩ := rangeD_get hd
      have hi' : i < 9 := hi
      refine ⟨_, rfl, ?_⟩
      walk_at "go"
      refine w_ltr1 ?_
      refine w_addLs (hb.to ha8.1 (by omega)) (l1_ls _) (by omega) fun h5 => ?_
      walk_at "go"
      refine w_addLs h5 (hb.from (a := c / 78 % 8 + 1) (by omega) (by omega)) (by omega) fun h6 => ?_
      exact ⟨rfl, _, rfl, h6.nm (by omega) (by omega)⟩
    · intro ys hy hp i2 h2 o2
      obtain ⟨xs, rfl, hx⟩ := strs_nm hp
      exact ⟨i2, xs, rfl, o2, by simpa using hy, hx⟩
  · walk_at "go"
    refine br_d (fun c2 => ?_) (fun c2 => ?_)
    · walk_at "go"
      refine o_comp (fun _ y => ∃ x, y = .str x ∧ Nm x) o1.none (by simp) (fun _ _ => rfl) ?_ ?_
      · intro i d h' hd _
        obtain ⟨hi, rfl⟩ := rangeD_get hd
        have hi' : i < 8 := hi
        refine ⟨_, rfl, ?_⟩
        walk_at "go"
        exact ⟨rfl, _, rfl, (hb.to (a := 0 + (i : Int) + 1) (by omega) (by omega)).nm (by omega) (by omega)⟩
      intro ys hy hp i2 h2 o2
      obtain ⟨xs, rfl, hx⟩ := strs_nm hp
      walk_at "go"
      refine o_new o2 (by simp) fun i3 h3 o3 => ?_
      refine o_add o3 (o3.at 1 rfl) (o3.at 0 rfl) (by simp at hy; simp [hy]) fun i4 h4 o4 => ?_
      refine ⟨i4, xs ++ [cutS base (some 1) none], rfl, ?_, by simp at hy; simp [hy], fun x hx' => ?_⟩
      · rw [List.map_append]; exact o4.head
      · rcases List.mem_append.mp hx' with z | z
        · exact hx x z
        · rw [List.mem_singleton.mp z]
          exact (hb.from (a := 1) (by omega) (by omega)).nm (by decide) (by decide)
    · walk_at "go"
      refine o_comp (fun _ y => ∃ x, y = .str x ∧ Nm x) o1.none (by simp) (fun _ _ => rfl) ?_ ?_
      · intro i d h' hd _
        obtain ⟨hi, rfl⟩ := rangeD_get hd
        have hi' : i < 9 := hi
        refine ⟨_, rfl, ?_⟩
        walk_at "go"
        exact w_ltr1 ⟨rfl, _, rfl, (l1_ls _).nm (by decide) (by decide)⟩
      · intro ys hy hp i2 h2 o2
        obtain ⟨xs, rfl, hx⟩ := strs_nm hp
        exact ⟨i2, xs, rfl, o2, by simpa using hy, hx⟩
/-! rows drawn -/
abbrev Rw3 := Str × Str × Nat × List Str
def r3D (r : Rw3) : D := .tup [.str r.1, .str r.2.1, .ref r.2.2.1]
structure R3 (h : MH) (r : Rw3) : Prop where
  f : Nm r.1
  n : Nm r.2.1
  l : getL h r.2.2.1 = some (r.2.2.2.map .str)
  s : ∀ x ∈ r.2.2.2, Nm x
  c : r.2.2.2.length ≤ 3
theorem pool_at9 {ns : List Str} (hl : ns.length = 9) {z : Int} (h0 : 0 ≤ z) (h1 : z < 9) : ∃ x, x ∈ ns ∧ atI (ns.map D.str) z = some (.str x) := pool_at hl h0 h1
theorem Own.perm {h0 h : MH} {L M : LL} (o : Own h0 h L) (p : L.Perm M) : Own h0 h M := ⟨o.pre, fun q hq => o.cell q (p.mem_iff.mpr hq), (p.map _).nodup_iff.mp o.nd⟩
def cel (r : Rw3) : Nat × List D := (r.2.2.1, r.2.2.2.map .str)
theorem k_rows {sc : List Int} (hb : ∀ z ∈ sc, Cell z) {h : MH} {is ip : Nat} (g0 : getL h is = some (sc.map D.int)) {ns : List Str} (hns : ∀ x ∈ ns, Nm x) (h9 : ns.length = 9) (gp : getL h ip = some (ns.map .str)) :
    Sat (m_rows_cc517 [.ref is, .ref ip] h) (fun d h' => ∃ (i : Nat) (rs : List Rw3), d = .ref i ∧ Own h h' ((i, rs.map r3D) :: rs.map cel) ∧ rs.length ≤ 10 ∧ ∀ r ∈ rs, Nm r.1 ∧ Nm r.2.1 ∧ (∀ x ∈ r.2.2.2, Nm x) ∧ r.2.2.2.length ≤ 3) noX := by
  walk_at "fn"
  refine (c_cell_at hb g0 (by decide)).mono ?_
  rintro d h1 ⟨rfl, c, rfl, _⟩
  have hm := mod_in c (n := 11) (by decide)
  generalize hmm : c % 11 = mm at *
  walk_at "go"
  rw [hmm]
  walk_at "go"
  refine o_new (Own.nil h1) (by simp) fun iR h2 o2 => ?_
  walk_at "go"
  refine w_loop0 (fun k ρ h' => ∃ (rs : List Rw3) (o5 o6 o7 o8 o9 o10 o11 : Option D), ρ = [some (.ref is), some (.ref ip), some (.int c), some (.int mm), some (.ref iR), o5, o6, o7, o8, o9, o10, o11] ∧ Own h1 h' ((iR, rs.map r3D) :: rs.map cel) ∧ rs.length = k ∧ ∀ r ∈ rs, Nm r.1 ∧ Nm r.2.1 ∧ (∀ x ∈ r.2.2.2, Nm x) ∧ r.2.2.2.length ≤ 3)
    ⟨[], none, none, none, none, none, none, none, rfl, o2, rfl, fun r hr => by simp at hr⟩ (fun _ _ _ _ => rfl) ?_ ?_
  · rintro k d ρ h' hd ⟨rs, o5, o6, o7, o8, o9, o10, o11, rfl, o, hk, hrs⟩
    obtain ⟨hk', rfl⟩ := rangeD_get hd
    have hmp : 1 ≤ mm := by omega
    refine ⟨_, rfl, ?_⟩
    dsimp only [List.set]
    walk_at "go"
    refine (c_cell_at hb (pre_getL o.pre g0) (by omega)).mono ?_
    rintro d h3 ⟨rfl, c3, rfl, hc3⟩
    walk_at "go"
    refine (c_tape2 hc3 (n := 12) (by decide)).mono ?_
    rintro d h4 ⟨iT, l4, rfl, o4, t4⟩
    have oo := o.trans o4
    simp only [List.cons_append, List.nil_append] at oo
    have hm9 := mod_in (c / 11 + (0 + (k : Int))) (n := 9) (by decide)
    obtain ⟨x, hx, ax⟩ := pool_at h9 hm9.1 hm9.2
    walk_at "go"
    refine (c_next oo 0 rfl t4 (by decide)).mono ?_
    rintro d h5 ⟨v, l5, rfl, hv0, hv1, t5, o5'⟩
    dsimp only [List.set] at o5'
    walk_at "go"
    refine br_mid (fun ρ h' => ∃ (x : Str) (l : List D), ρ = [some (.ref is), some (.ref ip), some (.int c), some (.int mm), some (.ref iR), some (.int (0 + (k : Int))), some (.ref iT), some (.str x), o8, o9, o10, o11] ∧ Nm x ∧ Tp l ∧ Own h1 h' ((iT, l) :: (iR, rs.map r3D) :: rs.map cel)) ?_ ?_
    · refine br_d (fun q => ?_) (fun q => ?_)
      · walk_at "go"
        refine (c_next o5' 0 rfl t5 (by decide)).mono ?_
        rintro d h6 ⟨v6, l6, rfl, hv60, hv61, t6, o6'⟩
        dsimp only [List.set] at o6'
        obtain ⟨x6, hx6, ax6⟩ := pool_at h9 hv60 hv61
        walk_at "go"
        exact ⟨x6, l6, rfl, hns x6 hx6, t6, o6'⟩
      · walk_at "go"
        exact ⟨x, l5, rfl, hns x hx, t5, o5'⟩
    rintro ρ h6 ⟨x, l6, rfl, hxn, t6, o6'⟩
    walk_at "go"
    refine (c_next o6' 0 rfl t6 (by decide)).mono ?_
    rintro d h7 ⟨v7, l7, rfl, hv70, hv71, t7, o7'⟩
    dsimp only [List.set] at o7'
    obtain ⟨y, hy, ay⟩ := pool_at h9 hv70 hv71
    walk_at "go"
    refine o_new o7' (by simp) fun iW h8 o8' => ?_
    walk_at "go"
    refine (c_next o8' 1 rfl t7 (by decide)).mono ?_
    rintro d h9' ⟨v9, l9, rfl, hv90, hv91, t9, o9'⟩
    dsimp only [List.set] at o9'
    walk_at "go"
    have hint : ∀ b : Bool, dInt [.bl b] h9' = .ok (.int (if b then 1 else 0)) h9' := fun b => rfl
    refine w_eq (hint _) ?_
    obtain ⟨wd, aw, hwd⟩ : ∃ wd : Int, atI [D.int (if (9 : Int) < mm then 9 else mm), D.int 9] (if decide (v9 = 0) = true then 1 else 0) = some (.int wd) ∧ 0 < wd := by
      by_cases z : v9 = 0
      · refine ⟨9, ?_, by decide⟩
        simp [z]; rfl
      · refine ⟨(if (9 : Int) < mm then 9 else mm), ?_, ?_⟩
        · simp [z]; rfl
        · split <;> omega
    walk_at "go"
    refine o_new o9' (by simp) fun iS h10 o10' => ?_
    walk_at "go"
    refine (c_next o10' 2 rfl t9 (by decide)).mono ?_
    rintro d h11 ⟨v11, l11, rfl, hv110, hv111, t11, o11'⟩
    dsimp only [List.set] at o11'
    walk_at "go"
    refine w_loop0 (fun j ρ h' => ∃ (sp : List Str) (l : List D) (o11 : Option D), ρ = [some (.ref is), some (.ref ip), some (.int c), some (.int mm), some (.ref iR), some (.int (0 + (k : Int))), some (.ref iT), some (.str x), some (.str y), some (.int wd), some (.ref iS), o11] ∧ Tp l ∧ sp.length = j ∧ (∀ x ∈ sp, Nm x) ∧ Own h1 h' ((iS, sp.map .str) :: (iW, [D.int (if (9 : Int) < mm then 9 else mm), D.int 9]) :: (iT, l) :: (iR, rs.map r3D) :: rs.map cel))
      ⟨[], l11, o11, rfl, t11, rfl, fun x hx => by simp at hx, o11'⟩ (fun _ _ _ _ => rfl) ?_ ?_
    · rintro j d ρ h12 hd ⟨sp, l12, o11, rfl, t12, hj, hsp, o12⟩
      obtain ⟨hj', rfl⟩ := rangeD_get hd
      refine ⟨_, rfl, ?_⟩
      dsimp only [List.set]
      walk_at "go"
      refine (c_next o12 2 rfl t12 hwd).mono ?_
      rintro d h13 ⟨v13, l13, rfl, hv130, hv131, t13, o13⟩
      dsimp only [List.set] at o13
      have hm9' := mod_in (c / 11 + v13) (n := 9) (by decide)
      obtain ⟨z, hz, az⟩ := pool_at h9 hm9'.1 hm9'.2
      walk_at "go"
      refine o_app o13 0 rfl (by simp; omega) fun h14 o14 => ?_
      dsimp only [List.set] at o14
      refine ⟨sp ++ [z], l13, _, rfl, t13, by simp [hj], mem_app hsp (hns z hz), ?_⟩
      rw [List.map_append]
      exact o14
    · rintro ρ h12 ⟨sp, l12, o11, rfl, t12, hj, hsp, o12⟩
      walk_at "go"
      refine o_app o12 3 rfl (by simp; omega) fun h13 o13 => ?_
      dsimp only [List.set] at o13
      refine ⟨rs ++ [(x, y, iS, sp)], _, _, _, _, _, _, _, rfl, ?_, by simp [hk], mem_app hrs ⟨hxn, hns y hy, hsp, ?_⟩⟩
      · rw [List.map_append, List.map_append]
        refine (o13.sub (M := (iS, sp.map .str) :: (iR, rs.map r3D ++ [r3D (x, y, iS, sp)]) :: rs.map cel) ?_).perm ?_
        · exact (List.Sublist.cons _ (List.Sublist.cons _ (List.Sublist.refl _))).cons_cons _
        · refine (List.Perm.swap _ _ _).trans (List.Perm.cons _ ?_)
          exact List.perm_append_comm (l₁ := [cel (x, y, iS, sp)]) (l₂ := rs.map cel)
      · have : (rangeD 0 v11.toNat).length = v11.toNat := by simp
        rw [hj, this]
        omega
  · rintro ρ h' ⟨rs, o5, o6, o7, o8, o9, o10, o11, rfl, o, hk, hrs⟩
    walk_at "go"
    exact ⟨iR, rs, rfl, o, by rw [hk]; simp; omega, hrs⟩
end Mi

namespace Mi
open PySem L2
local macro_rules | `(tactic| walk_at "gl") => `(tactic| first
  | assumption
  | (refine Own.atL (h0 := ?_) (L := ?_) ?_ 0 ?_; rotate_left; rotate_left; assumption; rfl)
  | (refine Own.atL (h0 := ?_) (L := ?_) ?_ 1 ?_; rotate_left; rotate_left; assumption; rfl)
  | (refine Own.atL (h0 := ?_) (L := ?_) ?_ 2 ?_; rotate_left; rotate_left; assumption; rfl)
  | (refine Own.atL (h0 := ?_) (L := ?_) ?_ 3 ?_; rotate_left; rotate_left; assumption; rfl)
  | (refine Own.atL (h0 := ?_) (L := ?_) ?_ 4 ?_; rotate_left; rotate_left; assumption; rfl)
  | (refine Own.atL (h0 := ?_) (L := ?_) ?_ 5 ?_; rotate_left; rotate_left; assumption; rfl)
  | (refine Own.atL (h0 := ?_) (L := ?_) ?_ 6 ?_; rotate_left; rotate_left; assumption; rfl)
  | (refine Own.atL (h0 := ?_) (L := ?_) ?_ 7 ?_; rotate_left; rotate_left; assumption; rfl)
  | (refine Own.atL (h0 := ?_) (L := ?_) ?_ 8 ?_; rotate_left; rotate_left; assumption; rfl)
  | (refine Own.atL (h0 := ?_) (L := ?_) ?_ 9 ?_; rotate_left; rotate_left; assumption; rfl)
  | (refine Own.getL (h0 := ?_) (L := ?_) ?_ ?_; rotate_left; rotate_left; assumption; assumption))
local macro_rules | `(tactic| walk_at "il") => `(tactic| first
  | (refine Own.isL (h0 := ?_) (L := ?_) (l := ?_) ?_ 0 ?_; rotate_left; rotate_left; rotate_left; assumption; rfl)
  | (refine Own.isL (h0 := ?_) (L := ?_) (l := ?_) ?_ 1 ?_; rotate_left; rotate_left; rotate_left; assumption; rfl)
  | (refine Own.isL (h0 := ?_) (L := ?_) (l := ?_) ?_ 2 ?_; rotate_left; rotate_left; rotate_left; assumption; rfl)
  | (refine Own.isL (h0 := ?_) (L := ?_) (l := ?_) ?_ 3 ?_; rotate_left; rotate_left; rotate_left; assumption; rfl)
  | (refine Own.isL (h0 := ?_) (L := ?_) (l := ?_) ?_ 4 ?_; rotate_left; rotate_left; rotate_left; assumption; rfl)
  | (refine Own.isL (h0 := ?_) (L := ?_) (l := ?_) ?_ 5 ?_; rotate_left; rotate_left; rotate_left; assumption; rfl)
  | (refine Own.isL (h0 := ?_) (L := ?_) (l := ?_) ?_ 6 ?_; rotate_left; rotate_left; rotate_left; assumption; rfl)
  | (refine Own.isL (h0 := ?_) (L := ?_) (l := ?_) ?_ 7 ?_; rotate_left; rotate_left; rotate_left; assumption; rfl)
  | (refine Own.isL (h0 := ?_) (L := ?_) (l := ?_) ?_ 8 ?_; rotate_left; rotate_left; rotate_left; assumption; rfl)
  | (refine Own.isL (h0 := ?_) (L := ?_) (l := ?_) ?_ 9 ?_; rotate_left; rotate_left; rotate_left; assumption; rfl))
local macro_rules | `(tactic| walk_at "bd") => `(tactic| first | assumption | omega | (simp; done) | (simp; omega) | (simp [*]; done) | (simp [*]; omega))
local macro_rules | `(tactic| walk_at "w") => `(tactic| first
  | with_reducible refine w_seq ?_
  | with_reducible refine w_asg ?_
  | with_reducible refine w_cons ?_
  | with_reducible refine w_nil ?_
  | with_reducible refine w_c ?_
  | ((with_reducible refine w_var (d := ?_) ?_ ?_); rotate_left; rfl)
  | with_reducible refine w_bin ?_
  | with_reducible refine w_call ?_
  | with_reducible refine w_if ?_
  | with_reducible refine w_B ?_
  | with_reducible refine w_unB ?_
  | with_reducible refine w_ret ?_
  | with_reducible refine w_drop ?_
  | with_reducible refine w_skip ?_
  | with_reducible refine w_eq (dAdd_int _ _ _) ?_
  | with_reducible refine w_eq (dSub_int _ _ _) ?_
  | with_reducible refine w_eq (dEq_int _ _ _) ?_
  | with_reducible refine w_eq (dEq_str _ _ _) ?_
  | with_reducible refine w_eq (dNe_strs _ _ _) ?_
  | with_reducible refine w_eq (dEq_bls _ _ _) ?_
  | with_reducible refine w_eq (dNe_bls _ _ _) ?_
  | with_reducible refine w_eq (dLt_int _ _ _) ?_
  | with_reducible refine w_eq (dLe_int _ _ _) ?_
  | with_reducible refine w_eq (dGt_int _ _ _) ?_
  | with_reducible refine w_eq (dGe_int _ _ _) ?_
  | with_reducible refine w_eq (dNe_int _ _ _) ?_
  | ((with_reducible refine w_mod ?_ ?_); (first | assumption | decide | omega))
  | ((with_reducible refine w_fdiv ?_ ?_); (first | assumption | decide | omega))
  | ((with_reducible refine w_mulS ?_ ?_); (first | decide | omega))
  | ((with_reducible refine w_addS ?_ ?_); (first | assumption | decide | omega))
  | ((with_reducible refine w_lenS ?_ ?_); (first | assumption | decide | omega))
  | ((with_reducible refine w_slS ?_ ?_); (first | assumption | decide | omega))
  | with_reducible refine w_lenTm ?_
  | with_reducible refine w_eq (dLen_tup _ _) ?_
  | with_reducible refine w_eq (dSl_tup _ _ _ _) ?_
  | with_reducible refine w_eq (dMax_ev _ _ _) ?_
  | with_reducible refine w_eq (dMin_ev _ _ _) ?_
  | with_reducible refine w_eq (dAbs_ev _ _) ?_
  | with_reducible refine w_not ?_
  | with_reducible refine w_and ?_
  | with_reducible refine w_or ?_
  | with_reducible refine br_n ?_
  | with_reducible refine br_tt ?_
  | with_reducible refine br_ff ?_
  | ((with_reducible refine br_dt ?_ ?_); (first | assumption | omega | rfl))
  | ((with_reducible refine br_df ?_ ?_); (first | assumption | omega))
  | with_reducible refine w_tup ?_
  | ((with_reducible refine w_toTup ?_ ?_); exact (by simp))
  | with_reducible refine w_lst ?_
  | with_reducible refine w_lc ?_
  | with_reducible refine w_for ?_
  | with_reducible refine w_range1 ?_
  | with_reducible refine w_range2 ?_
  | ((with_reducible refine w_dR1 ?_ ?_); (first | decide | omega))
  | ((with_reducible refine w_dR2 ?_ ?_); (first | decide | omega))
  | with_reducible refine w_iter ?_
  | with_reducible refine w_eq (iter1_tup _ _) ?_
  | with_reducible refine w_eq (iter1_str _ _) ?_
  | with_reducible refine w_sl ?_
  | with_reducible refine w_no ?_
  | with_reducible refine w_some ?_
  | with_reducible refine w_unI ?_
  | with_reducible refine w_meth ?_
  | with_reducible refine w_isi ?_
  | with_reducible refine w_zip ?_
  | with_reducible refine w_ifE ?_
  | with_reducible refine w_andV ?_
  | with_reducible refine w_orV ?_
  | with_reducible refine w_notV ?_
  | with_reducible refine w_andK ?_
  | with_reducible refine w_orK ?_
  | with_reducible refine w_notK ?_
  | with_reducible refine w_revL ?_
  | with_reducible refine w_listRg1 ?_
  | with_reducible refine w_tindex ?_
  | with_reducible refine w_setIx ?_
  | with_reducible refine w_un ?_
  | with_reducible refine w_rev1 ?_
  | with_reducible refine w_rev2 ?_
  | with_reducible refine w_chain ?_
  | with_reducible refine w_chK ?_
  | with_reducible refine w_retN ?_
  | with_reducible refine w_brk ?_
  | with_reducible refine w_cont ?_
  | with_reducible refine w_asgT ?_
  | with_reducible refine w_eq (isi_str_str _ _) ?_
  | with_reducible refine w_eq (isi_int_int _ _) ?_
  | with_reducible refine w_eq (isi_tup_tup _ _) ?_
  | with_reducible refine w_eq (isi_bool_int _ _) ?_
  | with_reducible refine w_eq (isi_str_int _ _) ?_
  | ((with_reducible refine w_lenLm (α := ?_) (f := ?_) (l := ?_) ?_ ?_); rotate_left; rotate_left; rotate_left; walk_at "gl")
  | ((with_reducible refine w_lenL (l := ?_) ?_ ?_); rotate_left; walk_at "gl")
  | ((with_reducible refine w_iterL (l := ?_) ?_ ?_); rotate_left; walk_at "gl"; dsimp only)
  | ((with_reducible refine w_tupL (l := ?_) ?_ ?_); rotate_left; walk_at "gl")
  | ((with_reducible refine w_ixT (d := ?_) ?_ ?_); rotate_left; (first | with_reducible assumption | rfl))
  | ((with_reducible refine w_ixL (l := ?_) (d := ?_) ?_ ?_ ?_); rotate_left; rotate_left; walk_at "gl"; (first | with_reducible assumption | rfl))
  | ((with_reducible refine w_addT ?_ ?_); walk_at "bd")
  | ((with_reducible refine ⟨?_, ?_⟩); (with_reducible (show isListD (.ref _) _ = true)); walk_at "il")
  | with_reducible refine w_tryK ?_
  | with_reducible refine w_raise ?_
  | with_reducible refine w_raise0 ?_
  | with_reducible refine w_isX ?_
  | ((with_reducible refine w_isXK (k := ?_) ?_ ?_); rotate_left; (first | with_reducible exact lkA | (apply lkB; decide +kernel; exact lkA) | (apply lkB; decide +kernel; apply lkB; decide +kernel; exact lkA) | (apply lkB; decide +kernel; apply lkB; decide +kernel; apply lkB; decide +kernel; exact lkA)))
  | with_reducible refine w_xf ?_
  | ((with_reducible refine w_xfK ?_ ?_ ?_); (exact List.mem_cons_self); (decide))
  | with_reducible refine w_eq (isN_xo _) ?_
  | with_reducible refine w_eq (dNeg_int _ _) ?_)
local macro_rules | `(tactic| walk_at "go") => `(tactic| (repeat (walk_at "w")); try dsimp only [List.set])
local macro_rules | `(tactic| walk_at "fn") => `(tactic| ((refine w_fun ?_); simp only [startD, List.map_cons, List.map_nil, List.reduceReplicate, Nat.reduceSub, List.cons_append, List.nil_append]; walk_at "go"))
local macro_rules | `(tactic| walk_at "lk") => `(tactic| first | with_reducible exact lkA | (apply lkB; decide +kernel; walk_at "lk"))
local macro_rules | `(tactic| walk_at "mk") => `(tactic| first | with_reducible exact mkA | (apply mkB; decide +kernel; walk_at "mk"))
local macro_rules | `(tactic| walk_at "fk") => `(tactic| first | with_reducible exact fkA | exact fkN | (apply fkB; decide +kernel; walk_at "fk"))
local macro_rules | `(tactic| walk_at "cs") => `(tactic| first | exact List.mem_cons_self | (apply List.mem_cons_of_mem; walk_at "cs"))
local macro_rules | `(tactic| walk_at "w") => `(tactic| first
  | with_reducible refine w_fld ?_
  | ((with_reducible refine w_fldK (c := ?_) (fs := ?_) (v := ?_) ?_ ?_ ?_ ?_); rotate_left; rotate_left; rotate_left; (with_reducible assumption); (walk_at "cs"); (walk_at "fk"))
  | with_reducible refine w_setFld ?_
  | with_reducible refine w_new ?_
  | with_reducible refine w_methI ?_
  | ((with_reducible refine w_methK (c := ?_) (fs := ?_) (F := ?_) ?_ ?_ ?_ ?_); rotate_left; rotate_left; rotate_left; (with_reducible assumption); (walk_at "mk"); (walk_at "fk"))
  | with_reducible refine w_isC ?_
  | ((with_reducible refine w_isCK (c := ?_) (fs := ?_) (k := ?_) ?_ ?_ ?_); rotate_left; rotate_left; rotate_left; (with_reducible assumption); (walk_at "lk"))
  | with_reducible refine w_callD ?_
  | with_reducible refine w_mDSet ?_
  | with_reducible refine w_eq (nN_non _) ?_
  | with_reducible refine w_eq (nN_int _ _) ?_
  | with_reducible refine w_eq (nN_tup _ _) ?_
  | with_reducible refine w_eq (nN_ref _ _) ?_
  | with_reducible refine w_eq (iN_non _) ?_
  | with_reducible refine w_eq (iN_int _ _) ?_
  | with_reducible refine w_eq (iN_tup _ _) ?_
  | with_reducible refine w_eq (iN_ref _ _) ?_)
/-! what is due -/
def Dup (fs : List Str) (k : Nat) : Prop := ∃ x, fs[k]? = some x ∧ x ∈ fs.take k
def Miss (rs : List Rw3) (k : Nat) : Prop := ∃ r, rs[k]? = some r ∧ ∃ x ∈ r.2.2.2, x ∉ rs.map (·.1)
def Fst (n : Nat) (P : Nat → Prop) (k : Nat) : Prop := k < n ∧ P k ∧ ∀ j, j < k → ¬ P j
theorem Fst.eq {n : Nat} {P : Nat → Prop} {j k : Nat} (a : Fst n P j) (b : Fst n P k) : j = k := by
  rcases Nat.lt_trichotomy j k with z | z | z
  · exact absurd a.2.1 (b.2.2 j z)
  · exact z
  · exact absurd b.2.1 (a.2.2 k z)
def Due (rs : List Rw3) (d : D) : Prop := (rs.length = 0 ∧ d = .int 0) ∨ (8 < rs.length ∧ d = .int 8) ∨ ((0 < rs.length ∧ rs.length ≤ 8) ∧
  ((∃ k : Nat, Fst rs.length (Dup (rs.map (·.1))) k ∧ d = .int (k : Int)) ∨ ((∀ j, j < rs.length → ¬ Dup (rs.map (·.1)) j) ∧
    ((∃ k : Nat, Fst rs.length (Miss rs) k ∧ d = .int (k : Int)) ∨ ((∀ j, j < rs.length → ¬ Miss rs j) ∧ d = .non)))))
theorem Due.eq {rs : List Rw3} {d e : D} (a : Due rs d) (b : Due rs e) : d = e := by
  rcases a with ⟨a1, rfl⟩ | ⟨a1, rfl⟩ | ⟨a1, a2⟩ <;> rcases b with ⟨b1, rfl⟩ | ⟨b1, rfl⟩ | ⟨b1, b2⟩ <;> try (first | rfl | omega)
  rcases a2 with ⟨k, a3, rfl⟩ | ⟨a3, a4⟩ <;> rcases b2 with ⟨j, b3, rfl⟩ | ⟨b3, b4⟩
  · rw [a3.eq b3]
  · exact absurd a3.2.1 (b3 _ a3.1)
  · exact absurd b3.2.1 (a3 _ b3.1)
  · rcases a4 with ⟨k, a5, rfl⟩ | ⟨a5, rfl⟩ <;> rcases b4 with ⟨j, b5, rfl⟩ | ⟨b5, rfl⟩
    · rw [a5.eq b5]
    · exact absurd a5.2.1 (b5 _ a5.1)
    · exact absurd b5.2.1 (a5 _ b5.1)
    · rfl
theorem cutT21 {l : List D} {z : Int} (h : 0 ≤ z) : cutD l none (some z) = l.take z.toNat := by
  obtain ⟨k, rfl⟩ := Int.eq_ofNat_of_zero_le h
  rw [Int.toNat_natCast]
  unfold cutD
  rw [HT.sIx_none, HT.sIx_nat, List.drop_zero, Nat.sub_zero]
  rcases Nat.lt_or_ge k l.length with z | z
  · rw [Nat.min_eq_left (Nat.le_of_lt z)]
  · rw [Nat.min_eq_right z, List.take_length, List.take_of_length_le z]
theorem strs_pt {rs : List Rw3} {ys : List D} (hl : ys.length = rs.length) (h : ∀ (i : Nat) y, ys[i]? = some y → ∃ r, rs[i]? = some r ∧ y = .str r.1) : ys = (rs.map (·.1)).map .str := by
  refine List.ext_getElem? fun i => ?_
  rw [List.getElem?_map, List.getElem?_map]
  cases e : ys[i]? with
  | none =>
    have : rs.length ≤ i := by rw [← hl]; exact List.getElem?_eq_none_iff.mp e
    rw [List.getElem?_eq_none_iff.mpr this]
    rfl
  | some y =>
    obtain ⟨r, e1, rfl⟩ := h i y e
    rw [e1]
    rfl
theorem w_nin21 {x : Str} {l : List Str} {h : MH} {Q : D → MH → Prop} {E : XE} {i : Nat} (e : getL h i = some (l.map .str)) (q : Q (.bl (!decide (x ∈ l))) h) : Sat (dNotIn (.str x) (.ref i) h) Q E := w_eq (by simp only [dNotIn, inD_strsP (x := x) (l := l) (b := .ref i) (h := h) e (fun z => by simp)]) q
theorem k_due {rs : List Rw3} {h : MH} {i : Nat} (hl : getL h i = some (rs.map r3D)) (hr : ∀ r ∈ rs, getL h r.2.2.1 = some (r.2.2.2.map .str)) (hn : rs.length ≤ 1000) : Sat (m_due_40573 [.ref i] h) (fun d h' => h <+: h' ∧ Due rs d) noX := by
  have at3 : ∀ (k : Nat) r, rs[k]? = some r → atI (rs.map r3D) (0 + (k : Int)) = some (r3D r) := fun k r e => by rw [Int.zero_add]; exact atI_at (by rw [List.getElem?_map, e]; rfl)
  walk_at "fn"
  refine br_d (fun q => ?_) (fun q => ?_)
  · walk_at "go"
    exact ⟨List.prefix_rfl, .inl ⟨by simpa using q, rfl⟩⟩
  walk_at "go"
  refine br_d (fun q2 => ?_) (fun q2 => ?_)
  · walk_at "go"
    exact ⟨List.prefix_rfl, .inr (.inl ⟨by omega, rfl⟩)⟩
  have hrl : 0 < rs.length ∧ rs.length ≤ 8 := by omega
  walk_at "go"
  refine o_comp (fun k y => ∃ r, rs[k]? = some r ∧ y = .str r.1) (Own.nil h) (by simp; omega) (fun h' pr => decide_eq_true (pre_getL pr hl)) ?_ ?_
  · rintro k d h' hd pr
    rw [List.getElem?_map, Option.map_eq_some_iff] at hd
    obtain ⟨r, er, rfl⟩ := hd
    refine ⟨_, rfl, ?_⟩
    dsimp only [wipeD, List.set]
    unfold r3D
    walk_at "go"
    exact ⟨rfl, r, er, rfl⟩
  rintro ys hy hp iK h1 o1
  obtain rfl := strs_pt (by rw [hy, List.length_map]) hp
  walk_at "go"
  refine w_loop0 (fun k ρ h' => (∃ o2 o3 o4, ρ = [some (.ref i), some (.ref iK), o2, o3, o4]) ∧ Own h h' [(iK, (rs.map (·.1)).map .str)] ∧ ∀ j, j < k → ¬ Dup (rs.map (·.1)) j) ⟨⟨none, none, none, rfl⟩, o1, fun j hj => by omega⟩ (fun _ _ _ _ => rfl) ?_ ?_
  · rintro k d ρ h' hd ⟨⟨o2, o3, o4, rfl⟩, o, hdup⟩
    obtain ⟨hk, rfl⟩ := rangeD_get hd
    have hk : k < rs.length := by simpa using hk
    have er := List.getElem?_eq_getElem hk
    have a1 : atI ((rs.map (·.1)).map D.str) (0 + (k : Int)) = some (.str rs[k].1) := by rw [Int.zero_add]; exact atI_at (by rw [List.getElem?_map, List.getElem?_map, er]; rfl)
    refine ⟨_, rfl, ?_⟩
    dsimp only [List.set]
    walk_at "go"
    refine o_sl o (o.atL 0 rfl) fun iS h2 o2' => ?_
    rw [cutT21 (by omega), show (0 + (k : Int)).toNat = k by omega, ← List.map_take] at o2'
    refine w_inLsP (o2'.atL 0 rfl) ?_
    walk_at "go"
    have hd1 : Dup (rs.map (·.1)) k ↔ rs[k].1 ∈ (rs.map (·.1)).take k := by
      unfold Dup
      rw [List.getElem?_map, er]
      simp
    refine br_d (fun z => ?_) (fun z => ?_)
    · walk_at "go"
      refine ⟨o2'.pre, .inr (.inr ⟨hrl, .inl ⟨k, ⟨hk, hd1.mpr z, hdup⟩, by rw [Int.zero_add]⟩⟩)⟩
    · walk_at "go"
      refine ⟨⟨_, _, _, rfl⟩, o2'.tail, fun j hj => ?_⟩
      rcases Nat.lt_or_ge j k with y | y
      · exact hdup j y
      · have : j = k := by omega
        rw [this, hd1]; exact z
  rintro ρ h2 ⟨⟨o2, o3, o4, rfl⟩, o, hdup⟩
  have hdup' : ∀ j, j < rs.length → ¬ Dup (rs.map (·.1)) j := fun j hj => hdup j (by simpa using hj)
  walk_at "go"
  refine w_loop0 (fun k ρ h' => (∃ o2 o3 o4, ρ = [some (.ref i), some (.ref iK), o2, o3, o4]) ∧ Own h h' [(iK, (rs.map (·.1)).map .str)] ∧ ∀ j, j < k → ¬ Miss rs j) ⟨⟨_, _, _, rfl⟩, o, fun j hj => by omega⟩ (fun _ _ _ _ => rfl) ?_ ?_
  · rintro k d ρ h' hd ⟨⟨o2, o3, o4, rfl⟩, o, hmis⟩
    obtain ⟨hk, rfl⟩ := rangeD_get hd
    have hk : k < rs.length := by simpa using hk
    have er := List.getElem?_eq_getElem hk
    have a1 := at3 k _ er
    unfold r3D at a1
    have hl' := pre_getL o.pre (hr rs[k] (List.getElem_mem hk))
    refine ⟨_, rfl, ?_⟩
    dsimp only [List.set]
    walk_at "go"
    refine w_ixL (pre_getL o.pre hl) a1 ?_
    walk_at "go"
    refine w_loop0 (fun j ρ h'' => h'' = h' ∧ (∃ o3 o4, ρ = [some (.ref i), some (.ref iK), some (.int (0 + (k : Int))), o3, o4]) ∧ ∀ x ∈ rs[k].2.2.2.take j, x ∈ rs.map (·.1)) ⟨rfl, ⟨_, _, rfl⟩, fun x hx => by simp at hx⟩ (fun _ _ h'' z => by rw [z.1]; exact decide_eq_true hl') ?_ ?_
    · rintro j d ρ h'' hd' ⟨rfl, ⟨o3, o4, rfl⟩, hall⟩
      rw [List.getElem?_map, Option.map_eq_some_iff] at hd'
      obtain ⟨x, ex, rfl⟩ := hd'
      refine ⟨_, rfl, ?_⟩
      dsimp only [List.set]
      walk_at "go"
      refine w_nin21 (o.atL 0 rfl) ?_
      walk_at "go"
      refine br_d (fun z => ?_) (fun z => ?_)
      · walk_at "go"
        refine ⟨rfl, ⟨_, _, rfl⟩, ?_⟩
        rw [take_snP ex]
        exact mem_app hall z
      · walk_at "go"
        exact ⟨o.pre, .inr (.inr ⟨hrl, .inr ⟨hdup', .inl ⟨k, ⟨hk, ⟨rs[k], er, x, List.mem_of_getElem? ex, z⟩, hmis⟩, by rw [Int.zero_add]⟩⟩⟩)⟩
    · rintro ρ h'' ⟨rfl, ⟨o3, o4, rfl⟩, hall⟩
      rw [List.length_map, List.take_length] at hall
      refine ⟨⟨_, _, _, rfl⟩, o, fun j hj => ?_⟩
      rcases Nat.lt_or_ge j k with y | y
      · exact hmis j y
      · have : j = k := by omega
        subst this
        rintro ⟨r, e1, x, hx, hn⟩
        rw [er] at e1
        cases e1
        exact hn (hall x hx)
  · rintro ρ h3 ⟨⟨o2, o3, o4, rfl⟩, o, hmis⟩
    walk_at "go"
    exact ⟨o.pre, .inr (.inr ⟨hrl, .inr ⟨hdup', .inr ⟨fun j hj => hmis j (by simpa using hj), rfl⟩⟩⟩)⟩
end Mi

namespace Mi
open PySem L2
local macro_rules | `(tactic| walk_at "gl") => `(tactic| first
  | assumption
  | (refine Own.atL (h0 := ?_) (L := ?_) ?_ 0 ?_; rotate_left; rotate_left; assumption; rfl)
  | (refine Own.atL (h0 := ?_) (L := ?_) ?_ 1 ?_; rotate_left; rotate_left; assumption; rfl)
  | (refine Own.atL (h0 := ?_) (L := ?_) ?_ 2 ?_; rotate_left; rotate_left; assumption; rfl)
  | (refine Own.atL (h0 := ?_) (L := ?_) ?_ 3 ?_; rotate_left; rotate_left; assumption; rfl)
  | (refine Own.atL (h0 := ?_) (L := ?_) ?_ 4 ?_; rotate_left; rotate_left; assumption; rfl)
  | (refine Own.atL (h0 := ?_) (L := ?_) ?_ 5 ?_; rotate_left; rotate_left; assumption; rfl)
  | (refine Own.atL (h0 := ?_) (L := ?_) ?_ 6 ?_; rotate_left; rotate_left; assumption; rfl)
  | (refine Own.atL (h0 := ?_) (L := ?_) ?_ 7 ?_; rotate_left; rotate_left; assumption; rfl)
  | (refine Own.atL (h0 := ?_) (L := ?_) ?_ 8 ?_; rotate_left; rotate_left; assumption; rfl)
  | (refine Own.atL (h0 := ?_) (L := ?_) ?_ 9 ?_; rotate_left; rotate_left; assumption; rfl)
  | (refine Own.getL (h0 := ?_) (L := ?_) ?_ ?_; rotate_left; rotate_left; assumption; assumption))
local macro_rules | `(tactic| walk_at "il") => `(tactic| first
  | (refine Own.isL (h0 := ?_) (L := ?_) (l := ?_) ?_ 0 ?_; rotate_left; rotate_left; rotate_left; assumption; rfl)
  | (refine Own.isL (h0 := ?_) (L := ?_) (l := ?_) ?_ 1 ?_; rotate_left; rotate_left; rotate_left; assumption; rfl)
  | (refine Own.isL (h0 := ?_) (L := ?_) (l := ?_) ?_ 2 ?_; rotate_left; rotate_left; rotate_left; assumption; rfl)
  | (refine Own.isL (h0 := ?_) (L := ?_) (l := ?_) ?_ 3 ?_; rotate_left; rotate_left; rotate_left; assumption; rfl)
  | (refine Own.isL (h0 := ?_) (L := ?_) (l := ?_) ?_ 4 ?_; rotate_left; rotate_left; rotate_left; assumption; rfl)
  | (refine Own.isL (h0 := ?_) (L := ?_) (l := ?_) ?_ 5 ?_; rotate_left; rotate_left; rotate_left; assumption; rfl)
  | (refine Own.isL (h0 := ?_) (L := ?_) (l := ?_) ?_ 6 ?_; rotate_left; rotate_left; rotate_left; assumption; rfl)
  | (refine Own.isL (h0 := ?_) (L := ?_) (l := ?_) ?_ 7 ?_; rotate_left; rotate_left; rotate_left; assumption; rfl)
  | (refine Own.isL (h0 := ?_) (L := ?_) (l := ?_) ?_ 8 ?_; rotate_left; rotate_left; rotate_left; assumption; rfl)
  | (refine Own.isL (h0 := ?_) (L := ?_) (l := ?_) ?_ 9 ?_; rotate_left; rotate_left; rotate_left; assumption; rfl))
local macro_rules | `(tactic| walk_at "bd") => `(tactic| first | assumption | omega | (simp; done) | (simp; omega) | (simp [*]; done) | (simp [*]; omega))
local macro_rules | `(tactic| walk_at "w") => `(tactic| first
  | with_reducible refine w_seq ?_
  | with_reducible refine w_asg ?_
  | with_reducible refine w_cons ?_
  | with_reducible refine w_nil ?_
  | with_reducible refine w_c ?_
  | ((with_reducible refine w_var (d := ?_) ?_ ?_); rotate_left; rfl)
  | with_reducible refine w_bin ?_
  | with_reducible refine w_call ?_
  | with_reducible refine w_if ?_
  | with_reducible refine w_B ?_
  | with_reducible refine w_unB ?_
  | with_reducible refine w_ret ?_
  | with_reducible refine w_drop ?_
  | with_reducible refine w_skip ?_
  | with_reducible refine w_eq (dAdd_int _ _ _) ?_
  | with_reducible refine w_eq (dSub_int _ _ _) ?_
  | with_reducible refine w_eq (dEq_int _ _ _) ?_
  | with_reducible refine w_eq (dEq_str _ _ _) ?_
  | with_reducible refine w_eq (dNe_strs _ _ _) ?_
  | with_reducible refine w_eq (dEq_bls _ _ _) ?_
  | with_reducible refine w_eq (dNe_bls _ _ _) ?_
  | with_reducible refine w_eq (dLt_int _ _ _) ?_
  | with_reducible refine w_eq (dLe_int _ _ _) ?_
  | with_reducible refine w_eq (dGt_int _ _ _) ?_
  | with_reducible refine w_eq (dGe_int _ _ _) ?_
  | with_reducible refine w_eq (dNe_int _ _ _) ?_
  | ((with_reducible refine w_mod ?_ ?_); (first | assumption | decide | omega))
  | ((with_reducible refine w_fdiv ?_ ?_); (first | assumption | decide | omega))
  | ((with_reducible refine w_mulS ?_ ?_); (first | decide | omega))
  | ((with_reducible refine w_addS ?_ ?_); (first | assumption | decide | omega))
  | ((with_reducible refine w_lenS ?_ ?_); (first | assumption | decide | omega))
  | ((with_reducible refine w_slS ?_ ?_); (first | assumption | decide | omega))
  | with_reducible refine w_lenTm ?_
  | with_reducible refine w_eq (dLen_tup _ _) ?_
  | with_reducible refine w_eq (dSl_tup _ _ _ _) ?_
  | with_reducible refine w_eq (dMax_ev _ _ _) ?_
  | with_reducible refine w_eq (dMin_ev _ _ _) ?_
  | with_reducible refine w_eq (dAbs_ev _ _) ?_
  | with_reducible refine w_not ?_
  | with_reducible refine w_and ?_
  | with_reducible refine w_or ?_
  | with_reducible refine br_n ?_
  | with_reducible refine br_tt ?_
  | with_reducible refine br_ff ?_
  | ((with_reducible refine br_dt ?_ ?_); (first | assumption | omega | rfl))
  | ((with_reducible refine br_df ?_ ?_); (first | assumption | omega))
  | with_reducible refine w_tup ?_
  | ((with_reducible refine w_toTup ?_ ?_); exact (by simp))
  | with_reducible refine w_lst ?_
  | with_reducible refine w_lc ?_
  | with_reducible refine w_for ?_
  | with_reducible refine w_range1 ?_
  | with_reducible refine w_range2 ?_
  | ((with_reducible refine w_dR1 ?_ ?_); (first | decide | omega))
  | ((with_reducible refine w_dR2 ?_ ?_); (first | decide | omega))
  | with_reducible refine w_iter ?_
  | with_reducible refine w_eq (iter1_tup _ _) ?_
  | with_reducible refine w_eq (iter1_str _ _) ?_
  | with_reducible refine w_sl ?_
  | with_reducible refine w_no ?_
  | with_reducible refine w_some ?_
  | with_reducible refine w_unI ?_
  | with_reducible refine w_meth ?_
  | with_reducible refine w_isi ?_
  | with_reducible refine w_zip ?_
  | with_reducible refine w_ifE ?_
  | with_reducible refine w_andV ?_
  | with_reducible refine w_orV ?_
  | with_reducible refine w_notV ?_
  | with_reducible refine w_andK ?_
  | with_reducible refine w_orK ?_
  | with_reducible refine w_notK ?_
  | with_reducible refine w_revL ?_
  | with_reducible refine w_listRg1 ?_
  | with_reducible refine w_tindex ?_
  | with_reducible refine w_setIx ?_
  | with_reducible refine w_un ?_
  | with_reducible refine w_rev1 ?_
  | with_reducible refine w_rev2 ?_
  | with_reducible refine w_chain ?_
  | with_reducible refine w_chK ?_
  | with_reducible refine w_retN ?_
  | with_reducible refine w_brk ?_
  | with_reducible refine w_cont ?_
  | with_reducible refine w_asgT ?_
  | with_reducible refine w_eq (isi_str_str _ _) ?_
  | with_reducible refine w_eq (isi_int_int _ _) ?_
  | with_reducible refine w_eq (isi_tup_tup _ _) ?_
  | with_reducible refine w_eq (isi_bool_int _ _) ?_
  | with_reducible refine w_eq (isi_str_int _ _) ?_
  | ((with_reducible refine w_lenLm (α := ?_) (f := ?_) (l := ?_) ?_ ?_); rotate_left; rotate_left; rotate_left; walk_at "gl")
  | ((with_reducible refine w_lenL (l := ?_) ?_ ?_); rotate_left; walk_at "gl")
  | ((with_reducible refine w_iterL (l := ?_) ?_ ?_); rotate_left; walk_at "gl"; dsimp only)
  | ((with_reducible refine w_tupL (l := ?_) ?_ ?_); rotate_left; walk_at "gl")
  | ((with_reducible refine w_ixT (d := ?_) ?_ ?_); rotate_left; (first | with_reducible assumption | rfl))
  | ((with_reducible refine w_ixL (l := ?_) (d := ?_) ?_ ?_ ?_); rotate_left; rotate_left; walk_at "gl"; (first | with_reducible assumption | rfl))
  | ((with_reducible refine w_addT ?_ ?_); walk_at "bd")
  | ((with_reducible refine ⟨?_, ?_⟩); (with_reducible (show isListD (.ref _) _ = true)); walk_at "il")
  | with_reducible refine w_tryK ?_
  | with_reducible refine w_raise ?_
  | with_reducible refine w_raise0 ?_
  | with_reducible refine w_isX ?_
  | ((with_reducible refine w_isXK (k := ?_) ?_ ?_); rotate_left; (first | with_reducible exact lkA | (apply lkB; decide +kernel; exact lkA) | (apply lkB; decide +kernel; apply lkB; decide +kernel; exact lkA) | (apply lkB; decide +kernel; apply lkB; decide +kernel; apply lkB; decide +kernel; exact lkA)))
  | with_reducible refine w_xf ?_
  | ((with_reducible refine w_xfK ?_ ?_ ?_); (exact List.mem_cons_self); (decide))
  | with_reducible refine w_eq (isN_xo _) ?_
  | with_reducible refine w_eq (dNeg_int _ _) ?_)
local macro_rules | `(tactic| walk_at "go") => `(tactic| (repeat (walk_at "w")); try dsimp only [List.set])
local macro_rules | `(tactic| walk_at "fn") => `(tactic| ((refine w_fun ?_); simp only [startD, List.map_cons, List.map_nil, List.reduceReplicate, Nat.reduceSub, List.cons_append, List.nil_append]; walk_at "go"))
local macro_rules | `(tactic| walk_at "lk") => `(tactic| first | with_reducible exact lkA | (apply lkB; decide +kernel; walk_at "lk"))
local macro_rules | `(tactic| walk_at "mk") => `(tactic| first | with_reducible exact mkA | (apply mkB; decide +kernel; walk_at "mk"))
local macro_rules | `(tactic| walk_at "fk") => `(tactic| first | with_reducible exact fkA | exact fkN | (apply fkB; decide +kernel; walk_at "fk"))
local macro_rules | `(tactic| walk_at "cs") => `(tactic| first | exact List.mem_cons_self | (apply List.mem_cons_of_mem; walk_at "cs"))
local macro_rules | `(tactic| walk_at "w") => `(tactic| first
  | with_reducible refine w_fld ?_
  | ((with_reducible refine w_fldK (c := ?_) (fs := ?_) (v := ?_) ?_ ?_ ?_ ?_); rotate_left; rotate_left; rotate_left; (with_reducible assumption); (walk_at "cs"); (walk_at "fk"))
  | with_reducible refine w_setFld ?_
  | with_reducible refine w_new ?_
  | with_reducible refine w_methI ?_
  | ((with_reducible refine w_methK (c := ?_) (fs := ?_) (F := ?_) ?_ ?_ ?_ ?_); rotate_left; rotate_left; rotate_left; (with_reducible assumption); (walk_at "mk"); (walk_at "fk"))
  | with_reducible refine w_isC ?_
  | ((with_reducible refine w_isCK (c := ?_) (fs := ?_) (k := ?_) ?_ ?_ ?_); rotate_left; rotate_left; rotate_left; (with_reducible assumption); (walk_at "lk"))
  | with_reducible refine w_callD ?_
  | with_reducible refine w_mDSet ?_
  | with_reducible refine w_eq (nN_non _) ?_
  | with_reducible refine w_eq (nN_int _ _) ?_
  | with_reducible refine w_eq (nN_tup _ _) ?_
  | with_reducible refine w_eq (nN_ref _ _) ?_
  | with_reducible refine w_eq (iN_non _) ?_
  | with_reducible refine w_eq (iN_int _ _) ?_
  | with_reducible refine w_eq (iN_tup _ _) ?_
  | with_reducible refine w_eq (iN_ref _ _) ?_)
/-! forms spoken of -/
mutual
def PT.fms : PT → List Str
  | .one x => [x]
  | .times p _ _ => p.fms
  | .chain l => PT.fmss l
  | .choice l => PT.fmss l
  | .mixed l => PT.fmss l
def PT.fmss : List PT → List Str
  | [] => []
  | p :: l => p.fms ++ PT.fmss l
end
theorem fmss_mem {x : Str} : ∀ {l : List PT}, x ∈ PT.fmss l ↔ ∃ p ∈ l, x ∈ p.fms
  | [] => by simp [PT.fmss]
  | p :: l => by rw [PT.fmss, List.mem_append, fmss_mem (l := l)]; simp
theorem strKeys_val : ∀ {kvs : List (Key × D)} {ks : List Str} (x : Str), strKeys kvs = some ks → (valD kvs (.inr x)).isSome = decide (x ∈ ks)
  | [], ks, x, e => by cases e; simp [valD]
  | (.inl _, _) :: _, ks, x, e => by cases e
  | (.inr y, v) :: l, ks, x, e => by
    simp only [strKeys, Option.map_eq_some_iff] at e
    obtain ⟨r, e, rfl⟩ := e
    by_cases z : y = x
    · subst z
      simp [valD, List.find?_cons]
    · have h1 : valD ((.inr y, v) :: l) (.inr x) = valD l (.inr x) := by simp [valD, List.find?_cons, z]
      rw [h1, strKeys_val x e]
      simp [Ne.symm z]
theorem strKeys_app : ∀ {kvs : List (Key × D)} {ks : List Str} (x : Str) (v : D), strKeys kvs = some ks → strKeys (kvs ++ [(.inr x, v)]) = some (ks ++ [x])
  | [], ks, x, v, e => by cases e; rfl
  | (.inl _, _) :: _, ks, x, v, e => by cases e
  | (.inr y, w) :: l, ks, x, v, e => by
    simp only [strKeys, Option.map_eq_some_iff] at e
    obtain ⟨r, e, rfl⟩ := e
    rw [List.cons_append]
    simp only [strKeys, strKeys_app x v e]
    rfl
theorem strKeys_rep : ∀ {kvs : List (Key × D)} (k : Key) (v : D), strKeys (kvs.map fun kv => if kv.1 = k then (kv.1, v) else kv) = strKeys kvs
  | [], k, v => rfl
  | (.inl i, w) :: l, k, v => by
    rw [List.map_cons]
    by_cases z : Sum.inl i = k
    · rw [if_pos z]; rfl
    · rw [if_neg z]; rfl
  | (.inr y, w) :: l, k, v => by
    rw [List.map_cons]
    have ih := strKeys_rep (kvs := l) k v
    by_cases z : Sum.inr y = k
    · rw [if_pos z]; simp only [strKeys, ih]
    · rw [if_neg z]; simp only [strKeys, ih]
theorem strKeys_put {kvs : List (Key × D)} {ks : List Str} (x : Str) (v : D) (e : strKeys kvs = some ks) : strKeys (putKD kvs (.inr x) v) = some (if x ∈ ks then ks else ks ++ [x]) := by
  have hs := strKeys_val x e
  have ha : (kvs.any fun kv => decide (kv.1 = Sum.inr x)) = (valD kvs (.inr x)).isSome := by
    unfold valD
    rw [Option.isSome_map, Bool.eq_iff_iff, List.any_eq_true, List.find?_isSome]
  unfold putKD
  rw [ha, hs]
  by_cases z : x ∈ ks
  · rw [if_pos (by simpa using z), if_pos z, strKeys_rep, e]
  · rw [if_neg (by simpa using z), if_neg z, strKeys_app x v e]
theorem sortS_mem21 {x : Str} {ys : List Str} : x ∈ sortS ys ↔ x ∈ ys := (List.mergeSort_perm ys leS).mem_iff
theorem sortS_len21 (ys : List Str) : (sortS ys).length = ys.length := (List.mergeSort_perm ys leS).length_eq
/-! speaks -/
abbrev tabS (n : Nat) : MTab := [((Str.ofString "One"), (m_One_speaks_46a94)), ((Str.ofString "Chain"), (m_scc_Chain_speaks_d27eb n 0)), ((Str.ofString "Choice"), (m_scc_Chain_speaks_d27eb n 1)), ((Str.ofString "Times"), (m_scc_Chain_speaks_d27eb n 3)), ((Str.ofString "Mixed"), (m_scc_Chain_speaks_d27eb n 2))]
def SpkQ (p : PT) (h : MH) (y : D) (h' : MH) : Prop := ∃ (j : Nat) (ys : List Str), y = .ref j ∧ Own h h' [(j, ys.map .str)] ∧ (∀ x, x ∈ ys ↔ x ∈ p.fms) ∧ ys.length ≤ p.sz
def SpkAt (n : Nat) : Prop := ∀ (p : PT) (d : D) (h : MH) (ρ : Slots), Pat h p d → 2 * p.dep ≤ n → p.sz ≤ 10000 → Sat (methK (Str.ofString "speaks") (tabS n) mNil ρ d h) (SpkQ p h) noX
theorem k_spoken {n : Nat} (ih : SpkAt n) {l : List PT} {es : List D} {h : MH} (hp : Pats h l es) (hd : 2 * PT.deps l ≤ n) (hs : PT.szs l ≤ 10000) :
    Sat (m_scc_Chain_speaks_d27eb (n + 1) 4 [.tup es] h) (fun y h' => ∃ (j : Nat) (ys : List Str), y = .ref j ∧ Own h h' [(j, ys.map .str)] ∧ (∀ x, x ∈ ys ↔ x ∈ PT.fmss l) ∧ ys.length ≤ PT.szs l) noX := by
  have hlen := hp.len
  show Sat (m_all_spoken_50ba5 (m_scc_Chain_speaks_d27eb n) [.tup es] h) _ _
  walk_at "fn"
  refine c_dict0 (Cel.nil h) fun iD h1 c1 => ?_
  walk_at "go"
  refine w_loop0 (fun k ρ h' => ∃ (kvs : List (Key × D)) (ks : List Str) (o2 o3 : Option D), ρ = [some (.tup es), some (.ref iD), o2, o3] ∧ Cel h h' [(iD, .dK kvs)] ∧ strKeys kvs = some ks ∧ (∀ x, x ∈ ks ↔ x ∈ PT.fmss (l.take k)) ∧ ks.length ≤ PT.szs (l.take k) ∧ kvs.length ≤ PT.szs (l.take k))
    ⟨[], [], none, none, rfl, c1, rfl, fun x => by simp [PT.fmss], by simp, by simp⟩ (fun _ _ _ _ => rfl) ?_ ?_
  · rintro k d ρ h' hd' ⟨kvs, ks, o2, o3, rfl, c, hks, hmem, hl1, hl2⟩
    obtain ⟨p, ep, hpp⟩ := hp.get hd'
    have hm := List.mem_of_getElem? ep
    refine ⟨_, rfl, ?_⟩
    dsimp only [List.set]
    walk_at "go"
    refine (ih p d h' _ (hpp.mono c.pre) (by have := pdeps_le.mp (Nat.le_refl _) p hm; omega) (by have := pszs_mem hm; omega)).mono ?_
    rintro y h2 ⟨j, ys, rfl, o2', hy, hyl⟩
    have c2 : Cel h h2 [(j, .lst (ys.map .str)), (iD, .dK kvs)] := c.trans o2'.cel
    refine w_iterL (c2.atL 0 rfl) ?_
    dsimp only
    have hz1 : PT.szs (l.take (k + 1)) = PT.szs (l.take k) + p.sz := by rw [take_snP ep, pszs_app, PT.szs, PT.szs]; rfl
    have hz2 := szs_takeP l (k + 1)
    refine w_loop0 (fun i ρ h' => ∃ (kvs : List (Key × D)) (ks : List Str) (o3 : Option D), ρ = [some (.tup es), some (.ref iD), some d, o3] ∧ Cel h h' [(j, .lst (ys.map .str)), (iD, .dK kvs)] ∧ strKeys kvs = some ks ∧ (∀ x, x ∈ ks ↔ x ∈ PT.fmss (l.take k) ∨ x ∈ ys.take i) ∧ ks.length ≤ PT.szs (l.take k) + i ∧ kvs.length ≤ PT.szs (l.take k) + i)
      ⟨kvs, ks, o3, rfl, c2, hks, fun x => by rw [hmem]; simp, by omega, by omega⟩ (fun _ _ _ ⟨_, _, _, _, c, _⟩ => decide_eq_true (c.atL 0 rfl)) ?_ ?_
    · rintro i d' ρ h3 hd3 ⟨kvs, ks, o3, rfl, c3, hks, hmem3, hl3, hl4⟩
      rw [List.getElem?_map, Option.map_eq_some_iff] at hd3
      obtain ⟨x, ex, rfl⟩ := hd3
      have hi : i < ys.length := (List.getElem?_eq_some_iff.mp ex).1
      refine ⟨_, rfl, ?_⟩
      dsimp only [List.set]
      walk_at "go"
      refine c_dSet rfl c3 1 rfl (by omega) fun h4 c4 => ?_
      refine ⟨_, _, _, rfl, c4, strKeys_put x _ hks, fun z => ?_, ?_, ?_⟩
      · rw [take_snP ex, List.mem_append, List.mem_singleton]
        split
        · rename_i hx
          rw [hmem3]
          constructor
          · rintro (q | q)
            · exact .inl q
            · exact .inr (.inl q)
          · rintro (q | q | q)
            · exact .inl q
            · exact .inr q
            · rw [q]; exact (hmem3 x).mp hx
        · rw [List.mem_append, List.mem_singleton, hmem3]
          constructor
          · rintro ((q | q) | q)
            · exact .inl q
            · exact .inr (.inl q)
            · exact .inr (.inr q)
          · rintro (q | q | q)
            · exact .inl (.inl q)
            · exact .inl (.inr q)
            · exact .inr q
      · split
        · omega
        · rw [List.length_append, List.length_singleton]; omega
      · have := putKD_len kvs (.inr x) (.bl true); omega
    · rintro ρ h3 ⟨kvs, ks, o3, rfl, c3, hks, hmem3, hl3, hl4⟩
      rw [List.length_map] at hmem3 hl3 hl4
      rw [List.take_length] at hmem3
      refine ⟨kvs, ks, _, _, rfl, c3.tail, hks, fun x => ?_, by omega, by omega⟩
      rw [hmem3, take_snP ep, fmss_mem, fmss_mem, hy]
      constructor
      · rintro (⟨q, hq, hx⟩ | hx)
        · exact ⟨q, List.mem_append_left _ hq, hx⟩
        · exact ⟨p, by simp, hx⟩
      · rintro ⟨q, hq, hx⟩
        rcases List.mem_append.mp hq with z | z
        · exact .inl ⟨q, z, hx⟩
        · rw [List.mem_singleton] at z
          rw [z] at hx
          exact .inr hx
  · rintro ρ h' ⟨kvs, ks, o2, o3, rfl, c, hks, hmem, hl1, hl2⟩
    rw [hlen, List.take_length] at hmem hl1
    walk_at "go"
    refine w_sortK (c.at 0 rfl) hks ?_
    have ow : Own h h' [] := ⟨c.pre, fun p hp => by simp at hp, List.nodup_nil⟩
    exact ⟨_, _, rfl, ow.alloc _, fun x => by rw [sortS_mem21, hmem], by rw [sortS_len21]; exact hl1⟩
theorem k_speaks : ∀ n, SpkAt n
  | 0 => fun p d h ρ hp hn _ => by have : 1 ≤ p.dep := by cases p <;> rw [PT.dep] <;> omega
                                   omega
  | 1 => fun p d h ρ hp hn _ => by have : 1 ≤ p.dep := by cases p <;> rw [PT.dep] <;> omega
                                   omega
  | n + 2 => fun p d h ρ hp hn hs => by
    cases p with
    | one x =>
      obtain ⟨i, rfl, e⟩ := hp
      refine w_methK e mkA (by walk_at "fk") ?_
      walk_at "go"
      walk_at "fn"
      refine o_new (Own.nil h) (by simp) fun j h1 o1 => ?_
      exact ⟨j, [x], rfl, o1, fun z => by simp [PT.fms], by simp [PT.sz]⟩
    | times p lo hi =>
      obtain ⟨i, e1, rfl, e, hp⟩ := hp
      refine w_methK e (by walk_at "mk") (by walk_at "fk") ?_
      walk_at "go"
      show Sat (m_Times_speaks_3b929 (m_scc_Chain_speaks_d27eb (n + 1)) [.ref i] h) _ _
      walk_at "fn"
      refine (k_speaks (n + 1) p e1 h _ hp (by rw [PT.dep] at hn; omega) (by rw [PT.sz] at hs; omega)).mono ?_
      rintro y h2 ⟨j, ys, rfl, o2, hy, hyl⟩
      exact ⟨j, ys, rfl, o2, hy, by rw [PT.sz]; omega⟩
    | chain l =>
      obtain ⟨es, ⟨i, rfl, e⟩, hp⟩ := hp
      refine w_methK e (by walk_at "mk") (by walk_at "fk") ?_
      walk_at "go"
      show Sat (m_Chain_speaks_3d286 (m_scc_Chain_speaks_d27eb (n + 1)) [.ref i] h) _ _
      walk_at "fn"
      refine (k_spoken (k_speaks n) hp (by rw [PT.dep] at hn; omega) (by rw [PT.sz] at hs; omega)).mono ?_
      rintro y h2 ⟨j, ys, rfl, o2, hy, hyl⟩
      exact ⟨j, ys, rfl, o2, hy, by rw [PT.sz]; omega⟩
    | choice l =>
      obtain ⟨es, ⟨i, rfl, e⟩, hp⟩ := hp
      refine w_methK e (by walk_at "mk") (by walk_at "fk") ?_
      walk_at "go"
      show Sat (m_Choice_speaks_61bc5 (m_scc_Chain_speaks_d27eb (n + 1)) [.ref i] h) _ _
      walk_at "fn"
      refine (k_spoken (k_speaks n) hp (by rw [PT.dep] at hn; omega) (by rw [PT.sz] at hs; omega)).mono ?_
      rintro y h2 ⟨j, ys, rfl, o2, hy, hyl⟩
      exact ⟨j, ys, rfl, o2, hy, by rw [PT.sz]; omega⟩
    | mixed l =>
      obtain ⟨es, ⟨i, rfl, e⟩, hp⟩ := hp
      refine w_methK e (by walk_at "mk") (by walk_at "fk") ?_
      walk_at "go"
      show Sat (m_Mixed_speaks_bc979 (m_scc_Chain_speaks_d27eb (n + 1)) [.ref i] h) _ _
      walk_at "fn"
      refine (k_spoken (k_speaks n) hp (by rw [PT.dep] at hn; omega) (by rw [PT.sz] at hs; omega)).mono ?_
      rintro y h2 ⟨j, ys, rfl, o2, hy, hyl⟩
      exact ⟨j, ys, rfl, o2, hy, by rw [PT.sz]; omega⟩
end Mi

namespace Mi
open PySem L2
local macro_rules | `(tactic| walk_at "gl") => `(tactic| first
  | assumption
  | (refine Own.atL (h0 := ?_) (L := ?_) ?_ 0 ?_; rotate_left; rotate_left; assumption; rfl)
  | (refine Own.atL (h0 := ?_) (L := ?_) ?_ 1 ?_; rotate_left; rotate_left; assumption; rfl)
  | (refine Own.atL (h0 := ?_) (L := ?_) ?_ 2 ?_; rotate_left; rotate_left; assumption; rfl)
  | (refine Own.atL (h0 := ?_) (L := ?_) ?_ 3 ?_; rotate_left; rotate_left; assumption; rfl)
  | (refine Own.atL (h0 := ?_) (L := ?_) ?_ 4 ?_; rotate_left; rotate_left; assumption; rfl)
  | (refine Own.atL (h0 := ?_) (L := ?_) ?_ 5 ?_; rotate_left; rotate_left; assumption; rfl)
  | (refine Own.atL (h0 := ?_) (L := ?_) ?_ 6 ?_; rotate_left; rotate_left; assumption; rfl)
  | (refine Own.atL (h0 := ?_) (L := ?_) ?_ 7 ?_; rotate_left; rotate_left; assumption; rfl)
  | (refine Own.atL (h0 := ?_) (L := ?_) ?_ 8 ?_; rotate_left; rotate_left; assumption; rfl)
  | (refine Own.atL (h0 := ?_) (L := ?_) ?_ 9 ?_; rotate_left; rotate_left; assumption; rfl)
  | (refine Own.getL (h0 := ?_) (L := ?_) ?_ ?_; rotate_left; rotate_left; assumption; assumption))
local macro_rules | `(tactic| walk_at "il") => `(tactic| first
  | (refine Own.isL (h0 := ?_) (L := ?_) (l := ?_) ?_ 0 ?_; rotate_left; rotate_left; rotate_left; assumption; rfl)
  | (refine Own.isL (h0 := ?_) (L := ?_) (l := ?_) ?_ 1 ?_; rotate_left; rotate_left; rotate_left; assumption; rfl)
  | (refine Own.isL (h0 := ?_) (L := ?_) (l := ?_) ?_ 2 ?_; rotate_left; rotate_left; rotate_left; assumption; rfl)
  | (refine Own.isL (h0 := ?_) (L := ?_) (l := ?_) ?_ 3 ?_; rotate_left; rotate_left; rotate_left; assumption; rfl)
  | (refine Own.isL (h0 := ?_) (L := ?_) (l := ?_) ?_ 4 ?_; rotate_left; rotate_left; rotate_left; assumption; rfl)
  | (refine Own.isL (h0 := ?_) (L := ?_) (l := ?_) ?_ 5 ?_; rotate_left; rotate_left; rotate_left; assumption; rfl)
  | (refine Own.isL (h0 := ?_) (L := ?_) (l := ?_) ?_ 6 ?_; rotate_left; rotate_left; rotate_left; assumption; rfl)
  | (refine Own.isL (h0 := ?_) (L := ?_) (l := ?_) ?_ 7 ?_; rotate_left; rotate_left; rotate_left; assumption; rfl)
  | (refine Own.isL (h0 := ?_) (L := ?_) (l := ?_) ?_ 8 ?_; rotate_left; rotate_left; rotate_left; assumption; rfl)
  | (refine Own.isL (h0 := ?_) (L := ?_) (l := ?_) ?_ 9 ?_; rotate_left; rotate_left; rotate_left; assumption; rfl))
local macro_rules | `(tactic| walk_at "bd") => `(tactic| first | assumption | omega | (simp; done) | (simp; omega) | (simp [*]; done) | (simp [*]; omega))
local macro_rules | `(tactic| walk_at "w") => `(tactic| first
  | with_reducible refine w_seq ?_
  | with_reducible refine w_asg ?_
  | with_reducible refine w_cons ?_
  | with_reducible refine w_nil ?_
  | with_reducible refine w_c ?_
  | ((with_reducible refine w_var (d := ?_) ?_ ?_); rotate_left; rfl)
  | with_reducible refine w_bin ?_
  | with_reducible refine w_call ?_
  | with_reducible refine w_if ?_
  | with_reducible refine w_B ?_
  | with_reducible refine w_unB ?_
  | with_reducible refine w_ret ?_
  | with_reducible refine w_drop ?_
  | with_reducible refine w_skip ?_
  | with_reducible refine w_eq (dAdd_int _ _ _) ?_
  | with_reducible refine w_eq (dSub_int _ _ _) ?_
  | with_reducible refine w_eq (dEq_int _ _ _) ?_
  | with_reducible refine w_eq (dEq_str _ _ _) ?_
  | with_reducible refine w_eq (dNe_strs _ _ _) ?_
  | with_reducible refine w_eq (dEq_bls _ _ _) ?_
  | with_reducible refine w_eq (dNe_bls _ _ _) ?_
  | with_reducible refine w_eq (dLt_int _ _ _) ?_
  | with_reducible refine w_eq (dLe_int _ _ _) ?_
  | with_reducible refine w_eq (dGt_int _ _ _) ?_
  | with_reducible refine w_eq (dGe_int _ _ _) ?_
  | with_reducible refine w_eq (dNe_int _ _ _) ?_
  | ((with_reducible refine w_mod ?_ ?_); (first | assumption | decide | omega))
  | ((with_reducible refine w_fdiv ?_ ?_); (first | assumption | decide | omega))
  | ((with_reducible refine w_mulS ?_ ?_); (first | decide | omega))
  | ((with_reducible refine w_addS ?_ ?_); (first | assumption | decide | omega))
  | ((with_reducible refine w_lenS ?_ ?_); (first | assumption | decide | omega))
  | ((with_reducible refine w_slS ?_ ?_); (first | assumption | decide | omega))
  | with_reducible refine w_lenTm ?_
  | with_reducible refine w_eq (dLen_tup _ _) ?_
  | with_reducible refine w_eq (dSl_tup _ _ _ _) ?_
  | with_reducible refine w_eq (dMax_ev _ _ _) ?_
  | with_reducible refine w_eq (dMin_ev _ _ _) ?_
  | with_reducible refine w_eq (dAbs_ev _ _) ?_
  | with_reducible refine w_not ?_
  | with_reducible refine w_and ?_
  | with_reducible refine w_or ?_
  | with_reducible refine br_n ?_
  | with_reducible refine br_tt ?_
  | with_reducible refine br_ff ?_
  | ((with_reducible refine br_dt ?_ ?_); (first | assumption | omega | rfl))
  | ((with_reducible refine br_df ?_ ?_); (first | assumption | omega))
  | with_reducible refine w_tup ?_
  | ((with_reducible refine w_toTup ?_ ?_); exact (by simp))
  | with_reducible refine w_lst ?_
  | with_reducible refine w_lc ?_
  | with_reducible refine w_for ?_
  | with_reducible refine w_range1 ?_
  | with_reducible refine w_range2 ?_
  | ((with_reducible refine w_dR1 ?_ ?_); (first | decide | omega))
  | ((with_reducible refine w_dR2 ?_ ?_); (first | decide | omega))
  | with_reducible refine w_iter ?_
  | with_reducible refine w_eq (iter1_tup _ _) ?_
  | with_reducible refine w_eq (iter1_str _ _) ?_
  | with_reducible refine w_sl ?_
  | with_reducible refine w_no ?_
  | with_reducible refine w_some ?_
  | with_reducible refine w_unI ?_
  | with_reducible refine w_meth ?_
  | with_reducible refine w_isi ?_
  | with_reducible refine w_zip ?_
  | with_reducible refine w_ifE ?_
  | with_reducible refine w_andV ?_
  | with_reducible refine w_orV ?_
  | with_reducible refine w_notV ?_
  | with_reducible refine w_andK ?_
  | with_reducible refine w_orK ?_
  | with_reducible refine w_notK ?_
  | with_reducible refine w_revL ?_
  | with_reducible refine w_listRg1 ?_
  | with_reducible refine w_tindex ?_
  | with_reducible refine w_setIx ?_
  | with_reducible refine w_un ?_
  | with_reducible refine w_rev1 ?_
  | with_reducible refine w_rev2 ?_
  | with_reducible refine w_chain ?_
  | with_reducible refine w_chK ?_
  | with_reducible refine w_retN ?_
  | with_reducible refine w_brk ?_
  | with_reducible refine w_cont ?_
  | with_reducible refine w_asgT ?_
  | with_reducible refine w_eq (isi_str_str _ _) ?_
  | with_reducible refine w_eq (isi_int_int _ _) ?_
  | with_reducible refine w_eq (isi_tup_tup _ _) ?_
  | with_reducible refine w_eq (isi_bool_int _ _) ?_
  | with_reducible refine w_eq (isi_str_int _ _) ?_
  | ((with_reducible refine w_lenLm (α := ?_) (f := ?_) (l := ?_) ?_ ?_); rotate_left; rotate_left; rotate_left; walk_at "gl")
  | ((with_reducible refine w_lenL (l := ?_) ?_ ?_); rotate_left; walk_at "gl")
  | ((with_reducible refine w_iterL (l := ?_) ?_ ?_); rotate_left; walk_at "gl"; dsimp only)
  | ((with_reducible refine w_tupL (l := ?_) ?_ ?_); rotate_left; walk_at "gl")
  | ((with_reducible refine w_ixT (d := ?_) ?_ ?_); rotate_left; (first | with_reducible assumption | rfl))
  | ((with_reducible refine w_ixL (l := ?_) (d := ?_) ?_ ?_ ?_); rotate_left; rotate_left; walk_at "gl"; (first | with_reducible assumption | rfl))
  | ((with_reducible refine w_addT ?_ ?_); walk_at "bd")
  | ((with_reducible refine ⟨?_, ?_⟩); (with_reducible (show isListD (.ref _) _ = true)); walk_at "il")
  | with_reducible refine w_tryK ?_
  | with_reducible refine w_raise ?_
  | with_reducible refine w_raise0 ?_
  | with_reducible refine w_isX ?_
  | ((with_reducible refine w_isXK (k := ?_) ?_ ?_); rotate_left; (first | with_reducible exact lkA | (apply lkB; decide +kernel; exact lkA) | (apply lkB; decide +kernel; apply lkB; decide +kernel; exact lkA) | (apply lkB; decide +kernel; apply lkB; decide +kernel; apply lkB; decide +kernel; exact lkA)))
  | with_reducible refine w_xf ?_
  | ((with_reducible refine w_xfK ?_ ?_ ?_); (exact List.mem_cons_self); (decide))
  | with_reducible refine w_eq (isN_xo _) ?_
  | with_reducible refine w_eq (dNeg_int _ _) ?_)
local macro_rules | `(tactic| walk_at "go") => `(tactic| (repeat (walk_at "w")); try dsimp only [List.set])
local macro_rules | `(tactic| walk_at "fn") => `(tactic| ((refine w_fun ?_); simp only [startD, List.map_cons, List.map_nil, List.reduceReplicate, Nat.reduceSub, List.cons_append, List.nil_append]; walk_at "go"))
local macro_rules | `(tactic| walk_at "lk") => `(tactic| first | with_reducible exact lkA | (apply lkB; decide +kernel; walk_at "lk"))
local macro_rules | `(tactic| walk_at "mk") => `(tactic| first | with_reducible exact mkA | (apply mkB; decide +kernel; walk_at "mk"))
local macro_rules | `(tactic| walk_at "fk") => `(tactic| first | with_reducible exact fkA | exact fkN | (apply fkB; decide +kernel; walk_at "fk"))
local macro_rules | `(tactic| walk_at "cs") => `(tactic| first | exact List.mem_cons_self | (apply List.mem_cons_of_mem; walk_at "cs"))
local macro_rules | `(tactic| walk_at "w") => `(tactic| first
  | with_reducible refine w_fld ?_
  | ((with_reducible refine w_fldK (c := ?_) (fs := ?_) (v := ?_) ?_ ?_ ?_ ?_); rotate_left; rotate_left; rotate_left; (with_reducible assumption); (walk_at "cs"); (walk_at "fk"))
  | with_reducible refine w_setFld ?_
  | with_reducible refine w_new ?_
  | with_reducible refine w_methI ?_
  | ((with_reducible refine w_methK (c := ?_) (fs := ?_) (F := ?_) ?_ ?_ ?_ ?_); rotate_left; rotate_left; rotate_left; (with_reducible assumption); (walk_at "mk"); (walk_at "fk"))
  | with_reducible refine w_isC ?_
  | ((with_reducible refine w_isCK (c := ?_) (fs := ?_) (k := ?_) ?_ ?_ ?_); rotate_left; rotate_left; rotate_left; (with_reducible assumption); (walk_at "lk"))
  | with_reducible refine w_callD ?_
  | with_reducible refine w_mDSet ?_
  | with_reducible refine w_eq (nN_non _) ?_
  | with_reducible refine w_eq (nN_int _ _) ?_
  | with_reducible refine w_eq (nN_tup _ _) ?_
  | with_reducible refine w_eq (nN_ref _ _) ?_
  | with_reducible refine w_eq (iN_non _) ?_
  | with_reducible refine w_eq (iN_int _ _) ?_
  | with_reducible refine w_eq (iN_tup _ _) ?_
  | with_reducible refine w_eq (iN_ref _ _) ?_)
theorem Sv.of {i : Nat} {h h' : MH} {l : List D} (e : h[i]? = some (.lst l)) (p : h <+: h') : Sv i h h' := ⟨⟨l, e⟩, fun j o _ g => pre_get p g⟩
theorem Sv.trans {i : Nat} {h h1 h2 : MH} (a : Sv i h h1) (b : Sv i h1 h2) : Sv i h h2 := ⟨a.1, fun j o hj e => b.2 j o hj (a.2 j o hj e)⟩
theorem Own.sv {h0 h h2 : MH} {L : LL} {n i : Nat} {l l' : List D} (o : Own h0 h L) (e : L[n]? = some (i, l)) (s : Sv i h h2) (e2 : h2[i]? = some (.lst l')) : Own h0 h2 (L.set n (i, l')) := by
  have hi : h0.length ≤ i := (o.cell _ (List.mem_of_getElem? e)).1
  refine ⟨?_, ?_, ?_⟩
  · rw [List.prefix_iff_getElem?]
    intro j hj
    have h1 : h[j]? = some h0[j] := pre_get o.pre (List.getElem?_eq_getElem hj)
    exact s.2 j _ (by omega) h1
  · intro q hq
    obtain ⟨k, hk, e3⟩ := List.mem_iff_getElem.mp hq
    rw [List.getElem_set] at e3
    split at e3
    · subst e3; exact ⟨hi, e2⟩
    · rename_i hne
      have hk' : k < L.length := by simpa using hk
      have hm : q ∈ L := e3 ▸ List.getElem_mem hk'
      refine ⟨(o.cell q hm).1, s.2 _ _ ?_ (o.cell q hm).2⟩
      have := o.ne (a := k) (b := n) (p := q) (q := (i, l)) (by rw [← e3]; exact List.getElem?_eq_getElem hk') e (Ne.symm hne)
      exact this
  · have em : (L.set n (i, l')).map (·.1) = L.map (·.1) := by
      rw [List.map_set]
      refine List.ext_getElem (by simp) fun k h1 h2 => ?_
      rw [List.getElem_set]
      split
      · rename_i q
        subst q
        rw [List.getElem_map]
        have := (List.getElem?_eq_some_iff.mp e).2
        rw [this]
      · rfl
    rw [em]
    exact o.nd
/-- the next number of a tape, the heap told -/
theorem k_nextX {h : MH} {i : Nat} {l : List D} (e : h[i]? = some (.lst l)) (tl : Tp l) {m : Int} (hm : 0 < m) : Sat (m_next_fea17 [.ref i, .int m] h) (fun d h' => ∃ v l', d = .int v ∧ (0 ≤ v ∧ v < m) ∧ Tp l' ∧ Sv i h h' ∧ h'[i]? = some (.lst l')) noX := by
  obtain ⟨zs, rfl, hz⟩ := tl
  have pr : h <+: h ++ [.lst []] := List.prefix_append _ _
  have e1 := pre_get pr e
  have ej : (h ++ [MO.lst []])[h.length]? = some (.lst []) := get_new
  walk_at "fn"
  refine w_toLst (by simp) ?_
  generalize h ++ [MO.lst []] = h1 at *
  walk_at "go"
  refine w_eqK (scal_int.eqL (l := zs) (m := []) (getL_of e1) (getL_of ej) (fun _ _ => trivial) (fun _ _ => trivial)) ?_
  walk_at "go"
  refine br_d (fun c => ?_) (fun c => ?_)
  · subst c
    walk_at "go"
    exact ⟨0, [], rfl, ⟨by decide, hm⟩, Tp.nil, Sv.of e pr, e1⟩
  · walk_at "go"
    refine ⟨by rw [isListD_ref, getL_of e1]; rfl, ?_⟩
    walk_at "go"
    obtain ⟨ys, y, rfl⟩ : ∃ ys y, zs = ys ++ [y] := ⟨zs.dropLast, zs.getLast c, (List.dropLast_concat_getLast c).symm⟩
    rw [List.map_append] at e1
    refine w_pop e1 ?_
    walk_at "go"
    have hv := mod_in y hm
    have hlt : i < h1.length := (List.getElem?_eq_some_iff.mp e1).1
    exact ⟨_, _, rfl, hv, ⟨ys, rfl, fun z hz' => hz z (by simp [hz'])⟩, (Sv.of e pr).trans ⟨⟨_, e1⟩, fun j o hj g => by rw [List.getElem?_set_ne (Ne.symm hj)]; exact g⟩, by simp [hlt]⟩
/-! ### patterns drawn -/
theorem fm_mkC {x : Str} {l : List PT} : x ∈ (mkC l).fms ↔ ∃ p ∈ l, x ∈ p.fms := by
  have e : x ∈ PT.fmss (l.flatMap opC) ↔ ∃ p ∈ l, x ∈ p.fms := by
    rw [fmss_mem]
    constructor
    · rintro ⟨q, hq, hx⟩
      obtain ⟨p, hp, hq⟩ := List.mem_flatMap.mp hq
      refine ⟨p, hp, ?_⟩
      cases p with
      | chain m => rw [PT.fms, fmss_mem]; exact ⟨q, hq, hx⟩
      | _ => rw [List.mem_singleton.mp hq] at hx; exact hx
    · rintro ⟨p, hp, hx⟩
      cases p with
      | chain m =>
        rw [PT.fms, fmss_mem] at hx
        obtain ⟨q, hq, hx⟩ := hx
        exact ⟨q, List.mem_flatMap.mpr ⟨_, hp, hq⟩, hx⟩
      | _ => exact ⟨_, List.mem_flatMap.mpr ⟨_, hp, List.mem_singleton.mpr rfl⟩, hx⟩
  unfold mkC solo
  split
  · rename_i p q
    rw [← e, q, PT.fmss, PT.fmss, List.append_nil]
  · rw [PT.fms, e]
theorem fm_mkO {x : Str} {l : List PT} (hok : ∀ p ∈ l, p.ok) : x ∈ (mkO l).fms ↔ ∃ p ∈ l, x ∈ p.fms := by
  have e : x ∈ PT.fmss (onceA [] (l.flatMap opO)) ↔ ∃ p ∈ l, x ∈ p.fms := by
    rw [fmss_mem]
    constructor
    · rintro ⟨q, hq, hx⟩
      rcases onceA_mem hq with z | hq
      · simp at z
      obtain ⟨p, hp, hq⟩ := List.mem_flatMap.mp hq
      refine ⟨p, hp, ?_⟩
      cases p with
      | choice m => rw [PT.fms, fmss_mem]; exact ⟨q, hq, hx⟩
      | _ => rw [List.mem_singleton.mp hq] at hx; exact hx
    · rintro ⟨p, hp, hx⟩
      have key : ∀ q ∈ opO p, x ∈ q.fms → ∃ p, p ∈ onceA [] (l.flatMap opO) ∧ x ∈ p.fms := fun q hq hx =>
        ⟨q, onceA_all (fun p hp => by simp at hp) (flat_ok (fun _ h => opO_ok h) hok) (List.mem_flatMap.mpr ⟨p, hp, hq⟩), hx⟩
      cases p with
      | choice m =>
        rw [PT.fms, fmss_mem] at hx
        obtain ⟨q, hq, hx⟩ := hx
        exact key q hq hx
      | _ => exact key _ (List.mem_singleton.mpr rfl) hx
  unfold mkO solo
  split
  · rename_i p q
    rw [← e, q, PT.fmss, PT.fmss, List.append_nil]
  · rw [PT.fms, e]
theorem fm_mkM {x : Str} {l : List PT} : x ∈ (mkM l).fms ↔ ∃ p ∈ l, x ∈ p.fms := by
  have e : x ∈ PT.fmss (l.flatMap opM) ↔ ∃ p ∈ l, x ∈ p.fms := by
    rw [fmss_mem]
    constructor
    · rintro ⟨q, hq, hx⟩
      obtain ⟨p, hp, hq⟩ := List.mem_flatMap.mp hq
      refine ⟨p, hp, ?_⟩
      cases p with
      | mixed m => rw [PT.fms, fmss_mem]; exact ⟨q, hq, hx⟩
      | _ =>
        unfold opM at hq
        simp only at hq
        split at hq
        · simp at hq
        · rw [List.mem_singleton.mp hq] at hx; exact hx
    · rintro ⟨p, hp, hx⟩
      cases p with
      | mixed m =>
        rw [PT.fms, fmss_mem] at hx
        obtain ⟨q, hq, hx⟩ := hx
        exact ⟨q, List.mem_flatMap.mpr ⟨_, hp, hq⟩, hx⟩
      | _ =>
        refine ⟨_, List.mem_flatMap.mpr ⟨_, hp, ?_⟩, hx⟩
        unfold opM
        simp only
        split
        · rename_i z
          rw [isE_eq z] at hx
          simp [PT.fms, PT.fmss] at hx
        · simp
  unfold mkM solo
  split
  · rename_i p q
    rw [← e, q, PT.fmss, PT.fmss, List.append_nil]
  · unfold mixN
    split
    · rename_i q
      rw [← e, q]; rfl
    · rw [PT.fms, e]
theorem fm_mkT {x : Str} {p : PT} {lo : Int} {hi : Option Int} (h0 : hi ≠ some 0) : x ∈ (mkT p lo hi).fms ↔ x ∈ p.fms := by
  unfold mkT
  split
  · rename_i c
    rcases c with c | c
    · exact absurd c h0
    · rw [isE_eq c]
  · split
    · rfl
    · rfl
def ones (sp : List Str) : List PT := sp.map .one
theorem ones_fm {x : Str} {sp : List Str} : (∃ p ∈ ones sp, x ∈ p.fms) ↔ x ∈ sp := by
  unfold ones
  constructor
  · rintro ⟨p, hp, hx⟩
    obtain ⟨y, hy, rfl⟩ := List.mem_map.mp hp
    simp [PT.fms] at hx
    rw [hx]; exact hy
  · intro hx
    exact ⟨.one x, List.mem_map.mpr ⟨x, hx, rfl⟩, by simp [PT.fms]⟩
theorem ones_fit {sp : List Str} (h : ∀ x ∈ sp, Nm x) : ∀ p ∈ ones sp, Fit p := fun p hp => by
  obtain ⟨y, hy, rfl⟩ := List.mem_map.mp hp
  exact ⟨h y hy, by simp [PT.dep], by simp [PT.sz]⟩
theorem ones_szs : ∀ sp : List Str, PT.szs (ones sp) = sp.length
  | [] => rfl
  | x :: sp => by
    have := ones_szs sp
    unfold ones at this ⊢
    rw [List.map_cons, PT.szs, this, PT.sz, List.length_cons]; omega
theorem ones_deps (sp : List Str) : PT.deps (ones sp) ≤ 1 := pdeps_le.mpr fun p hp => by
  obtain ⟨y, hy, rfl⟩ := List.mem_map.mp hp
  simp [PT.dep]
theorem ones_pats {h : MH} : ∀ {sp : List Str} {ys : List D}, ys.length = sp.length → (∀ (k : Nat) y, ys[k]? = some y → ∃ x, sp[k]? = some x ∧ Pat h (.one x) y) → Pats h (ones sp) ys
  | [], [], _, _ => rfl
  | [], _ :: _, e, _ => by simp at e
  | _ :: _, [], e, _ => by simp at e
  | x :: sp, y :: ys, e, g => by
    obtain ⟨q, e1, e2⟩ := g 0 y rfl
    simp at e1
    subst e1
    exact ⟨y, ys, rfl, e2, ones_pats (by simpa using e) fun k z hz => by simpa using g (k + 1) z (by simpa using hz)⟩
end Mi

namespace Mi
open PySem L2
local macro_rules | `(tactic| walk_at "gl") => `(tactic| first
  | assumption
  | (refine Own.atL (h0 := ?_) (L := ?_) ?_ 0 ?_; rotate_left; rotate_left; assumption; rfl)
  | (refine Own.atL (h0 := ?_) (L := ?_) ?_ 1 ?_; rotate_left; rotate_left; assumption; rfl)
  | (refine Own.atL (h0 := ?_) (L := ?_) ?_ 2 ?_; rotate_left; rotate_left; assumption; rfl)
  | (refine Own.atL (h0 := ?_) (L := ?_) ?_ 3 ?_; rotate_left; rotate_left; assumption; rfl)
  | (refine Own.atL (h0 := ?_) (L := ?_) ?_ 4 ?_; rotate_left; rotate_left; assumption; rfl)
  | (refine Own.atL (h0 := ?_) (L := ?_) ?_ 5 ?_; rotate_left; rotate_left; assumption; rfl)
  | (refine Own.atL (h0 := ?_) (L := ?_) ?_ 6 ?_; rotate_left; rotate_left; assumption; rfl)
  | (refine Own.atL (h0 := ?_) (L := ?_) ?_ 7 ?_; rotate_left; rotate_left; assumption; rfl)
  | (refine Own.atL (h0 := ?_) (L := ?_) ?_ 8 ?_; rotate_left; rotate_left; assumption; rfl)
  | (refine Own.atL (h0 := ?_) (L := ?_) ?_ 9 ?_; rotate_left; rotate_left; assumption; rfl)
  | (refine Own.getL (h0 := ?_) (L := ?_) ?_ ?_; rotate_left; rotate_left; assumption; assumption))
local macro_rules | `(tactic| walk_at "il") => `(tactic| first
  | (refine Own.isL (h0 := ?_) (L := ?_) (l := ?_) ?_ 0 ?_; rotate_left; rotate_left; rotate_left; assumption; rfl)
  | (refine Own.isL (h0 := ?_) (L := ?_) (l := ?_) ?_ 1 ?_; rotate_left; rotate_left; rotate_left; assumption; rfl)
  | (refine Own.isL (h0 := ?_) (L := ?_) (l := ?_) ?_ 2 ?_; rotate_left; rotate_left; rotate_left; assumption; rfl)
  | (refine Own.isL (h0 := ?_) (L := ?_) (l := ?_) ?_ 3 ?_; rotate_left; rotate_left; rotate_left; assumption; rfl)
  | (refine Own.isL (h0 := ?_) (L := ?_) (l := ?_) ?_ 4 ?_; rotate_left; rotate_left; rotate_left; assumption; rfl)
  | (refine Own.isL (h0 := ?_) (L := ?_) (l := ?_) ?_ 5 ?_; rotate_left; rotate_left; rotate_left; assumption; rfl)
  | (refine Own.isL (h0 := ?_) (L := ?_) (l := ?_) ?_ 6 ?_; rotate_left; rotate_left; rotate_left; assumption; rfl)
  | (refine Own.isL (h0 := ?_) (L := ?_) (l := ?_) ?_ 7 ?_; rotate_left; rotate_left; rotate_left; assumption; rfl)
  | (refine Own.isL (h0 := ?_) (L := ?_) (l := ?_) ?_ 8 ?_; rotate_left; rotate_left; rotate_left; assumption; rfl)
  | (refine Own.isL (h0 := ?_) (L := ?_) (l := ?_) ?_ 9 ?_; rotate_left; rotate_left; rotate_left; assumption; rfl))
local macro_rules | `(tactic| walk_at "bd") => `(tactic| first | assumption | omega | (simp; done) | (simp; omega) | (simp [*]; done) | (simp [*]; omega))
local macro_rules | `(tactic| walk_at "w") => `(tactic| first
  | with_reducible refine w_seq ?_
  | with_reducible refine w_asg ?_
  | with_reducible refine w_cons ?_
  | with_reducible refine w_nil ?_
  | with_reducible refine w_c ?_
  | ((with_reducible refine w_var (d := ?_) ?_ ?_); rotate_left; rfl)
  | with_reducible refine w_bin ?_
  | with_reducible refine w_call ?_
  | with_reducible refine w_if ?_
  | with_reducible refine w_B ?_
  | with_reducible refine w_unB ?_
  | with_reducible refine w_ret ?_
  | with_reducible refine w_drop ?_
  | with_reducible refine w_skip ?_
  | with_reducible refine w_eq (dAdd_int _ _ _) ?_
  | with_reducible refine w_eq (dSub_int _ _ _) ?_
  | with_reducible refine w_eq (dEq_int _ _ _) ?_
  | with_reducible refine w_eq (dEq_str _ _ _) ?_
  | with_reducible refine w_eq (dNe_strs _ _ _) ?_
  | with_reducible refine w_eq (dEq_bls _ _ _) ?_
  | with_reducible refine w_eq (dNe_bls _ _ _) ?_
  | with_reducible refine w_eq (dLt_int _ _ _) ?_
  | with_reducible refine w_eq (dLe_int _ _ _) ?_
  | with_reducible refine w_eq (dGt_int _ _ _) ?_
  | with_reducible refine w_eq (dGe_int _ _ _) ?_
  | with_reducible refine w_eq (dNe_int _ _ _) ?_
  | ((with_reducible refine w_mod ?_ ?_); (first | assumption | decide | omega))
  | ((with_reducible refine w_fdiv ?_ ?_); (first | assumption | decide | omega))
  | ((with_reducible refine w_mulS ?_ ?_); (first | decide | omega))
  | ((with_reducible refine w_addS ?_ ?_); (first | assumption | decide | omega))
  | ((with_reducible refine w_lenS ?_ ?_); (first | assumption | decide | omega))
  | ((with_reducible refine w_slS ?_ ?_); (first | assumption | decide | omega))
  | with_reducible refine w_lenTm ?_
  | with_reducible refine w_eq (dLen_tup _ _) ?_
  | with_reducible refine w_eq (dSl_tup _ _ _ _) ?_
  | with_reducible refine w_eq (dMax_ev _ _ _) ?_
  | with_reducible refine w_eq (dMin_ev _ _ _) ?_
  | with_reducible refine w_eq (dAbs_ev _ _) ?_
  | with_reducible refine w_not ?_
  | with_reducible refine w_and ?_
  | with_reducible refine w_or ?_
  | with_reducible refine br_n ?_
  | with_reducible refine br_tt ?_
  | with_reducible refine br_ff ?_
  | ((with_reducible refine br_dt ?_ ?_); (first | assumption | omega | rfl))
  | ((with_reducible refine br_df ?_ ?_); (first | assumption | omega))
  | with_reducible refine w_tup ?_
  | ((with_reducible refine w_toTup ?_ ?_); exact (by simp))
  | with_reducible refine w_lst ?_
  | with_reducible refine w_lc ?_
  | with_reducible refine w_for ?_
  | with_reducible refine w_range1 ?_
  | with_reducible refine w_range2 ?_
  | ((with_reducible refine w_dR1 ?_ ?_); (first | decide | omega))
  | ((with_reducible refine w_dR2 ?_ ?_); (first | decide | omega))
  | with_reducible refine w_iter ?_
  | with_reducible refine w_eq (iter1_tup _ _) ?_
  | with_reducible refine w_eq (iter1_str _ _) ?_
  | with_reducible refine w_sl ?_
  | with_reducible refine w_no ?_
  | with_reducible refine w_some ?_
  | with_reducible refine w_unI ?_
  | with_reducible refine w_meth ?_
  | with_reducible refine w_isi ?_
  | with_reducible refine w_zip ?_
  | with_reducible refine w_ifE ?_
  | with_reducible refine w_andV ?_
  | with_reducible refine w_orV ?_
  | with_reducible refine w_notV ?_
  | with_reducible refine w_andK ?_
  | with_reducible refine w_orK ?_
  | with_reducible refine w_notK ?_
  | with_reducible refine w_revL ?_
  | with_reducible refine w_listRg1 ?_
  | with_reducible refine w_tindex ?_
  | with_reducible refine w_setIx ?_
  | with_reducible refine w_un ?_
  | with_reducible refine w_rev1 ?_
  | with_reducible refine w_rev2 ?_
  | with_reducible refine w_chain ?_
  | with_reducible refine w_chK ?_
  | with_reducible refine w_retN ?_
  | with_reducible refine w_brk ?_
  | with_reducible refine w_cont ?_
  | with_reducible refine w_asgT ?_
  | with_reducible refine w_eq (isi_str_str _ _) ?_
  | with_reducible refine w_eq (isi_int_int _ _) ?_
  | with_reducible refine w_eq (isi_tup_tup _ _) ?_
  | with_reducible refine w_eq (isi_bool_int _ _) ?_
  | with_reducible refine w_eq (isi_str_int _ _) ?_
  | ((with_reducible refine w_lenLm (α := ?_) (f := ?_) (l := ?_) ?_ ?_); rotate_left; rotate_left; rotate_left; walk_at "gl")
  | ((with_reducible refine w_lenL (l := ?_) ?_ ?_); rotate_left; walk_at "gl")
  | ((with_reducible refine w_iterL (l := ?_) ?_ ?_); rotate_left; walk_at "gl"; dsimp only)
  | ((with_reducible refine w_tupL (l := ?_) ?_ ?_); rotate_left; walk_at "gl")
  | ((with_reducible refine w_ixT (d := ?_) ?_ ?_); rotate_left; (first | with_reducible assumption | rfl))
  | ((with_reducible refine w_ixL (l := ?_) (d := ?_) ?_ ?_ ?_); rotate_left; rotate_left; walk_at "gl"; (first | with_reducible assumption | rfl))
  | ((with_reducible refine w_addT ?_ ?_); walk_at "bd")
  | ((with_reducible refine ⟨?_, ?_⟩); (with_reducible (show isListD (.ref _) _ = true)); walk_at "il")
  | with_reducible refine w_tryK ?_
  | with_reducible refine w_raise ?_
  | with_reducible refine w_raise0 ?_
  | with_reducible refine w_isX ?_
  | ((with_reducible refine w_isXK (k := ?_) ?_ ?_); rotate_left; (first | with_reducible exact lkA | (apply lkB; decide +kernel; exact lkA) | (apply lkB; decide +kernel; apply lkB; decide +kernel; exact lkA) | (apply lkB; decide +kernel; apply lkB; decide +kernel; apply lkB; decide +kernel; exact lkA)))
  | with_reducible refine w_xf ?_
  | ((with_reducible refine w_xfK ?_ ?_ ?_); (exact List.mem_cons_self); (decide))
  | with_reducible refine w_eq (isN_xo _) ?_
  | with_reducible refine w_eq (dNeg_int _ _) ?_)
local macro_rules | `(tactic| walk_at "go") => `(tactic| (repeat (walk_at "w")); try dsimp only [List.set])
local macro_rules | `(tactic| walk_at "fn") => `(tactic| ((refine w_fun ?_); simp only [startD, List.map_cons, List.map_nil, List.reduceReplicate, Nat.reduceSub, List.cons_append, List.nil_append]; walk_at "go"))
local macro_rules | `(tactic| walk_at "lk") => `(tactic| first | with_reducible exact lkA | (apply lkB; decide +kernel; walk_at "lk"))
local macro_rules | `(tactic| walk_at "mk") => `(tactic| first | with_reducible exact mkA | (apply mkB; decide +kernel; walk_at "mk"))
local macro_rules | `(tactic| walk_at "fk") => `(tactic| first | with_reducible exact fkA | exact fkN | (apply fkB; decide +kernel; walk_at "fk"))
local macro_rules | `(tactic| walk_at "cs") => `(tactic| first | exact List.mem_cons_self | (apply List.mem_cons_of_mem; walk_at "cs"))
local macro_rules | `(tactic| walk_at "w") => `(tactic| first
  | with_reducible refine w_fld ?_
  | ((with_reducible refine w_fldK (c := ?_) (fs := ?_) (v := ?_) ?_ ?_ ?_ ?_); rotate_left; rotate_left; rotate_left; (with_reducible assumption); (walk_at "cs"); (walk_at "fk"))
  | with_reducible refine w_setFld ?_
  | with_reducible refine w_new ?_
  | with_reducible refine w_methI ?_
  | ((with_reducible refine w_methK (c := ?_) (fs := ?_) (F := ?_) ?_ ?_ ?_ ?_); rotate_left; rotate_left; rotate_left; (with_reducible assumption); (walk_at "mk"); (walk_at "fk"))
  | with_reducible refine w_isC ?_
  | ((with_reducible refine w_isCK (c := ?_) (fs := ?_) (k := ?_) ?_ ?_ ?_); rotate_left; rotate_left; rotate_left; (with_reducible assumption); (walk_at "lk"))
  | with_reducible refine w_callD ?_
  | with_reducible refine w_mDSet ?_
  | with_reducible refine w_eq (nN_non _) ?_
  | with_reducible refine w_eq (nN_int _ _) ?_
  | with_reducible refine w_eq (nN_tup _ _) ?_
  | with_reducible refine w_eq (nN_ref _ _) ?_
  | with_reducible refine w_eq (iN_non _) ?_
  | with_reducible refine w_eq (iN_int _ _) ?_
  | with_reducible refine w_eq (iN_tup _ _) ?_
  | with_reducible refine w_eq (iN_ref _ _) ?_)
theorem small_fit {p : PT} (hok : p.ok) (hd : p.dep ≤ 4) (hs : p.sz ≤ 50) : Fit p := ⟨hok, by omega, by omega⟩
theorem k_patX {h : MH} {iS iT : Nat} {sp : List Str} {l : List D} (gs : getL h iS = some (sp.map .str)) (hsp : ∀ x ∈ sp, Nm x) (hsl : sp.length ≤ 3) (eT : h[iT]? = some (.lst l)) (tl : Tp l) :
    Sat (m_pattern_fe5af [.ref iS, .ref iT] h) (fun d h' => Sv iT h h' ∧ (∃ l', h'[iT]? = some (.lst l') ∧ Tp l') ∧ ∃ p, Pat h' p d ∧ Fit p ∧ ∀ x, x ∈ p.fms ↔ x ∈ sp) noX := by
  have hlt : iT < h.length := (List.getElem?_eq_some_iff.mp eT).1
  have hof := ones_fit hsp
  have hoz := ones_szs sp
  have hod := ones_deps sp
  have hook : ∀ p ∈ ones sp, p.ok := fun p hp => (hof p hp).ok
  walk_at "fn"
  refine o_compM (fun k y h' => ∃ x, sp[k]? = some x ∧ Pat h' (.one x) y) (Own.nil h) (by simp; omega) (fun h' pr => decide_eq_true (pre_getL pr gs)) (fun i y h1 h2 sv ⟨x, e1, e2⟩ => ⟨x, e1, e2.sv sv⟩) ?_ ?_
  · rintro k d h' hd pr _
    rw [List.getElem?_map, Option.map_eq_some_iff] at hd
    obtain ⟨x, ex, rfl⟩ := hd
    refine ⟨_, rfl, ?_⟩
    dsimp only [wipeD, List.set]
    walk_at "go"
    refine k_one.mono ?_
    rintro y h2 ⟨p2, x2⟩
    exact ⟨p2, x, ex, x2⟩
  rintro ys h1 hy hp o1
  have hpp : Pats h1 (ones sp) ys := ones_pats (by rw [hy, List.length_map]) hp
  have hyl : ys.length = sp.length := by rw [hy, List.length_map]
  walk_at "go"
  refine (k_nextX (pre_get o1.pre eT) tl (by decide)).mono ?_
  rintro d h2 ⟨v, l2, rfl, hv, t2, s2, e2⟩
  have ec : h2[h.length]? = some (.lst ys) := s2.2 _ _ (by omega) (o1.at 0 rfl)
  have gc := getL_of ec
  have hp2 : Pats h2 (ones sp) ys := Pats.kin s2.kin _ _ hpp
  have sv2 : Sv iT h h2 := (Sv.of eT o1.pre).trans s2
  have fin : ∀ {h3 : MH} {p : PT} {d : D}, h2 <+: h3 → Pat h3 p d → Fit p → (∀ x, x ∈ p.fms ↔ x ∈ sp) → Sv iT h h3 ∧ (∃ l', h3[iT]? = some (.lst l') ∧ Tp l') ∧ ∃ p, Pat h3 p d ∧ Fit p ∧ ∀ x, x ∈ p.fms ↔ x ∈ sp :=
    fun {h3 p d} pr x f g => ⟨sv2.trans (Sv.of e2 pr), ⟨l2, pre_get pr e2, t2⟩, p, x, f, g⟩
  have fC : Fit (mkC (ones sp)) := by
    have h1 := mkC_sz (ones sp)
    have h2 := mkC_dep (ones sp)
    exact small_fit (mkC_ok hook) (by omega) (by omega)
  walk_at "go"
  refine br_d (fun q => ?_) (fun q => ?_)
  · walk_at "go"
    refine (k_chain gc hp2 (by omega)).mono ?_
    rintro y h3 ⟨p3, x3⟩
    exact fin p3 x3 fC fun x => by rw [fm_mkC, ones_fm]
  walk_at "go"
  refine br_d (fun q0 => ?_) (fun q0 => ?_)
  · walk_at "go"
    refine (k_chain gc hp2 (by omega)).mono ?_
    rintro y h3 ⟨p3, x3⟩
    exact fin p3 x3 fC fun x => by rw [fm_mkC, ones_fm]
  walk_at "go"
  refine br_d (fun q1 => ?_) (fun q1 => ?_)
  · walk_at "go"
    refine (k_choice gc hp2 hof (by omega)).mono ?_
    rintro y h3 ⟨p3, x3⟩
    have h1 := mkO_sz (ones sp)
    have h2 := mkO_dep (ones sp)
    exact fin p3 x3 (small_fit (mkO_ok hook) (by omega) (by omega)) fun x => by rw [fm_mkO hook, ones_fm]
  walk_at "go"
  refine br_d (fun q2 => ?_) (fun q2 => ?_)
  · walk_at "go"
    refine (k_mixed gc hp2 (by omega)).mono ?_
    rintro y h3 ⟨p3, x3⟩
    walk_at "go"
    refine (k_nextX (pre_get p3 e2) t2 (by decide)).mono ?_
    rintro d h4 ⟨v4, l4, rfl, hv4, t4, s4, e4⟩
    have x4 := x3.sv s4
    walk_at "go"
    have h1 := mkM_sz (ones sp)
    have h2 := mkM_dep (ones sp)
    have hlo : 0 ≤ v4 ∧ v4 ≤ 9 := by omega
    refine (k_times (hi := none) x4 hlo (fun k z => by cases z)).mono ?_
    rintro y h5 ⟨p5, x5⟩
    have h3 := mkT_sz (mkM (ones sp)) v4 none
    have h4 := mkT_dep (mkM (ones sp)) v4 none
    refine ⟨((sv2.trans (Sv.of e2 p3)).trans s4).trans (Sv.of e4 p5), ⟨l4, pre_get p5 e4, t4⟩, _, x5, small_fit (mkT_ok ⟨mkM_ok hook, hlo, fun k z => by cases z⟩) (by omega) (by omega), fun x => ?_⟩
    rw [fm_mkT (by simp), fm_mkM, ones_fm]
  · match sp, ys, hyl, hp2, q0 with
    | [], [], _, _, q0 => exact absurd rfl q0
    | x0 :: sp', y0 :: ys', hyl, hp2, _ =>
      obtain ⟨d', ds', e1, xx0, hp3⟩ := hp2
      cases e1
      have a0 : atI (y0 :: ys') 0 = some y0 := atI_at (k := 0) rfl
      walk_at "go"
      refine (k_times (hi := some 1) xx0 (by decide) (fun k z => by cases z; decide)).mono ?_
      rintro y h3 ⟨p3, x3⟩
      walk_at "go"
      refine o_new (Own.nil h3) (by simp) fun iA h4 o4 => ?_
      walk_at "go"
      refine o_sl o4 (pre_getL o4.pre (pre_getL p3 gc)) fun iB h5 o5 => ?_
      have ecut : cutD (y0 :: ys') (some 1) none = ys' := by
        unfold cutD
        rw [HT.sIx_none, show (1 : Int) = ((1 : Nat) : Int) from rfl, HT.sIx_nat]
        simp
      rw [ecut] at o5
      refine o_add o5 (o5.at 1 rfl) (o5.at 0 rfl) (by simp at hyl hsl ⊢; omega) fun iC h6 o6 => ?_
      walk_at "go"
      have pr6 : h2 <+: h6 := p3.trans o6.pre
      have eT2 : mkT (.one x0) 0 (some 1) = .times (.one x0) 0 (some 1) := rfl
      rw [eT2] at x3
      have hl7 : Pats h6 (.times (.one x0) 0 (some 1) :: ones sp') ([y] ++ ys') := ⟨y, ys', rfl, x3.mono o6.pre, hp3.mono pr6⟩
      have hz7 : PT.szs (.times (.one x0) 0 (some 1) :: ones sp') ≤ 10 := by
        rw [PT.szs, ones_szs, PT.sz, PT.sz]
        simp at hsl
        omega
      have hd7 : PT.deps (.times (.one x0) 0 (some 1) :: ones sp') ≤ 2 := by
        have := ones_deps sp'
        rw [PT.deps, PT.dep, PT.dep]
        omega
      have hok7 : ∀ p ∈ (PT.times (.one x0) 0 (some 1) :: ones sp'), p.ok := fun p hp => by
        rcases List.mem_cons.mp hp with rfl | hp
        · exact ⟨hsp x0 List.mem_cons_self, by decide, fun k z => by cases z; decide⟩
        · exact (ones_fit (fun x hx => hsp x (List.mem_cons_of_mem _ hx)) p hp).ok
      refine (k_chain (o6.atL 0 rfl) hl7 (by omega)).mono ?_
      rintro y7 h7 ⟨p7, x7⟩
      have h1 := mkC_sz (.times (.one x0) 0 (some 1) :: ones sp')
      have h2 := mkC_dep (.times (.one x0) 0 (some 1) :: ones sp')
      refine fin (pr6.trans p7) x7 (small_fit (mkC_ok hok7) (by omega) (by omega)) fun x => ?_
      rw [fm_mkC]
      have := ones_fm (x := x) (sp := sp')
      constructor
      · rintro ⟨p, hp, hx⟩
        rcases List.mem_cons.mp hp with rfl | hp
        · simp [PT.fms] at hx; rw [hx]; exact List.mem_cons_self
        · exact List.mem_cons_of_mem _ (this.mp ⟨p, hp, hx⟩)
      · intro hx
        rcases List.mem_cons.mp hx with rfl | hx
        · exact ⟨_, List.mem_cons_self, by simp [PT.fms]⟩
        · obtain ⟨p, hp, hx⟩ := this.mpr hx
          exact ⟨p, List.mem_cons_of_mem _ hp, hx⟩
end Mi

namespace Mi
open PySem L2
local macro_rules | `(tactic| walk_at "gl") => `(tactic| first
  | assumption
  | (refine Own.atL (h0 := ?_) (L := ?_) ?_ 0 ?_; rotate_left; rotate_left; assumption; rfl)
  | (refine Own.atL (h0 := ?_) (L := ?_) ?_ 1 ?_; rotate_left; rotate_left; assumption; rfl)
  | (refine Own.atL (h0 := ?_) (L := ?_) ?_ 2 ?_; rotate_left; rotate_left; assumption; rfl)
  | (refine Own.atL (h0 := ?_) (L := ?_) ?_ 3 ?_; rotate_left; rotate_left; assumption; rfl)
  | (refine Own.atL (h0 := ?_) (L := ?_) ?_ 4 ?_; rotate_left; rotate_left; assumption; rfl)
  | (refine Own.atL (h0 := ?_) (L := ?_) ?_ 5 ?_; rotate_left; rotate_left; assumption; rfl)
  | (refine Own.atL (h0 := ?_) (L := ?_) ?_ 6 ?_; rotate_left; rotate_left; assumption; rfl)
  | (refine Own.atL (h0 := ?_) (L := ?_) ?_ 7 ?_; rotate_left; rotate_left; assumption; rfl)
  | (refine Own.atL (h0 := ?_) (L := ?_) ?_ 8 ?_; rotate_left; rotate_left; assumption; rfl)
  | (refine Own.atL (h0 := ?_) (L := ?_) ?_ 9 ?_; rotate_left; rotate_left; assumption; rfl)
  | (refine Own.getL (h0 := ?_) (L := ?_) ?_ ?_; rotate_left; rotate_left; assumption; assumption))
local macro_rules | `(tactic| walk_at "il") => `(tactic| first
  | (refine Own.isL (h0 := ?_) (L := ?_) (l := ?_) ?_ 0 ?_; rotate_left; rotate_left; rotate_left; assumption; rfl)
  | (refine Own.isL (h0 := ?_) (L := ?_) (l := ?_) ?_ 1 ?_; rotate_left; rotate_left; rotate_left; assumption; rfl)
  | (refine Own.isL (h0 := ?_) (L := ?_) (l := ?_) ?_ 2 ?_; rotate_left; rotate_left; rotate_left; assumption; rfl)
  | (refine Own.isL (h0 := ?_) (L := ?_) (l := ?_) ?_ 3 ?_; rotate_left; rotate_left; rotate_left; assumption; rfl)
  | (refine Own.isL (h0 := ?_) (L := ?_) (l := ?_) ?_ 4 ?_; rotate_left; rotate_left; rotate_left; assumption; rfl)
  | (refine Own.isL (h0 := ?_) (L := ?_) (l := ?_) ?_ 5 ?_; rotate_left; rotate_left; rotate_left; assumption; rfl)
  | (refine Own.isL (h0 := ?_) (L := ?_) (l := ?_) ?_ 6 ?_; rotate_left; rotate_left; rotate_left; assumption; rfl)
  | (refine Own.isL (h0 := ?_) (L := ?_) (l := ?_) ?_ 7 ?_; rotate_left; rotate_left; rotate_left; assumption; rfl)
  | (refine Own.isL (h0 := ?_) (L := ?_) (l := ?_) ?_ 8 ?_; rotate_left; rotate_left; rotate_left; assumption; rfl)
  | (refine Own.isL (h0 := ?_) (L := ?_) (l := ?_) ?_ 9 ?_; rotate_left; rotate_left; rotate_left; assumption; rfl))
local macro_rules | `(tactic| walk_at "bd") => `(tactic| first | assumption | omega | (simp; done) | (simp; omega) | (simp [*]; done) | (simp [*]; omega))
local macro_rules | `(tactic| walk_at "w") => `(tactic| first
  | with_reducible refine w_seq ?_
  | with_reducible refine w_asg ?_
  | with_reducible refine w_cons ?_
  | with_reducible refine w_nil ?_
  | with_reducible refine w_c ?_
  | ((with_reducible refine w_var (d := ?_) ?_ ?_); rotate_left; rfl)
  | with_reducible refine w_bin ?_
  | with_reducible refine w_call ?_
  | with_reducible refine w_if ?_
  | with_reducible refine w_B ?_
  | with_reducible refine w_unB ?_
  | with_reducible refine w_ret ?_
  | with_reducible refine w_drop ?_
  | with_reducible refine w_skip ?_
  | with_reducible refine w_eq (dAdd_int _ _ _) ?_
  | with_reducible refine w_eq (dSub_int _ _ _) ?_
  | with_reducible refine w_eq (dEq_int _ _ _) ?_
  | with_reducible refine w_eq (dEq_str _ _ _) ?_
  | with_reducible refine w_eq (dNe_strs _ _ _) ?_
  | with_reducible refine w_eq (dEq_bls _ _ _) ?_
  | with_reducible refine w_eq (dNe_bls _ _ _) ?_
  | with_reducible refine w_eq (dLt_int _ _ _) ?_
  | with_reducible refine w_eq (dLe_int _ _ _) ?_
  | with_reducible refine w_eq (dGt_int _ _ _) ?_
  | with_reducible refine w_eq (dGe_int _ _ _) ?_
  | with_reducible refine w_eq (dNe_int _ _ _) ?_
  | ((with_reducible refine w_mod ?_ ?_); (first | assumption | decide | omega))
  | ((with_reducible refine w_fdiv ?_ ?_); (first | assumption | decide | omega))
  | ((with_reducible refine w_mulS ?_ ?_); (first | decide | omega))
  | ((with_reducible refine w_addS ?_ ?_); (first | assumption | decide | omega))
  | ((with_reducible refine w_lenS ?_ ?_); (first | assumption | decide | omega))
  | ((with_reducible refine w_slS ?_ ?_); (first | assumption | decide | omega))
  | with_reducible refine w_lenTm ?_
  | with_reducible refine w_eq (dLen_tup _ _) ?_
  | with_reducible refine w_eq (dSl_tup _ _ _ _) ?_
  | with_reducible refine w_eq (dMax_ev _ _ _) ?_
  | with_reducible refine w_eq (dMin_ev _ _ _) ?_
  | with_reducible refine w_eq (dAbs_ev _ _) ?_
  | with_reducible refine w_not ?_
  | with_reducible refine w_and ?_
  | with_reducible refine w_or ?_
  | with_reducible refine br_n ?_
  | with_reducible refine br_tt ?_
  | with_reducible refine br_ff ?_
  | ((with_reducible refine br_dt ?_ ?_); (first | assumption | omega | rfl))
  | ((with_reducible refine br_df ?_ ?_); (first | assumption | omega))
  | with_reducible refine w_tup ?_
  | ((with_reducible refine w_toTup ?_ ?_); exact (by simp))
  | with_reducible refine w_lst ?_
  | with_reducible refine w_lc ?_
  | with_reducible refine w_for ?_
  | with_reducible refine w_range1 ?_
  | with_reducible refine w_range2 ?_
  | ((with_reducible refine w_dR1 ?_ ?_); (first | decide | omega))
  | ((with_reducible refine w_dR2 ?_ ?_); (first | decide | omega))
  | with_reducible refine w_iter ?_
  | with_reducible refine w_eq (iter1_tup _ _) ?_
  | with_reducible refine w_eq (iter1_str _ _) ?_
  | with_reducible refine w_sl ?_
  | with_reducible refine w_no ?_
  | with_reducible refine w_some ?_
  | with_reducible refine w_unI ?_
  | with_reducible refine w_meth ?_
  | with_reducible refine w_isi ?_
  | with_reducible refine w_zip ?_
  | with_reducible refine w_ifE ?_
  | with_reducible refine w_andV ?_
  | with_reducible refine w_orV ?_
  | with_reducible refine w_notV ?_
  | with_reducible refine w_andK ?_
  | with_reducible refine w_orK ?_
  | with_reducible refine w_notK ?_
  | with_reducible refine w_revL ?_
  | with_reducible refine w_listRg1 ?_
  | with_reducible refine w_tindex ?_
  | with_reducible refine w_setIx ?_
  | with_reducible refine w_un ?_
  | with_reducible refine w_rev1 ?_
  | with_reducible refine w_rev2 ?_
  | with_reducible refine w_chain ?_
  | with_reducible refine w_chK ?_
  | with_reducible refine w_retN ?_
  | with_reducible refine w_brk ?_
  | with_reducible refine w_cont ?_
  | with_reducible refine w_asgT ?_
  | with_reducible refine w_eq (isi_str_str _ _) ?_
  | with_reducible refine w_eq (isi_int_int _ _) ?_
  | with_reducible refine w_eq (isi_tup_tup _ _) ?_
  | with_reducible refine w_eq (isi_bool_int _ _) ?_
  | with_reducible refine w_eq (isi_str_int _ _) ?_
  | ((with_reducible refine w_lenLm (α := ?_) (f := ?_) (l := ?_) ?_ ?_); rotate_left; rotate_left; rotate_left; walk_at "gl")
  | ((with_reducible refine w_lenL (l := ?_) ?_ ?_); rotate_left; walk_at "gl")
  | ((with_reducible refine w_iterL (l := ?_) ?_ ?_); rotate_left; walk_at "gl"; dsimp only)
  | ((with_reducible refine w_tupL (l := ?_) ?_ ?_); rotate_left; walk_at "gl")
  | ((with_reducible refine w_ixT (d := ?_) ?_ ?_); rotate_left; (first | with_reducible assumption | rfl))
  | ((with_reducible refine w_ixL (l := ?_) (d := ?_) ?_ ?_ ?_); rotate_left; rotate_left; walk_at "gl"; (first | with_reducible assumption | rfl))
  | ((with_reducible refine w_addT ?_ ?_); walk_at "bd")
  | ((with_reducible refine ⟨?_, ?_⟩); (with_reducible (show isListD (.ref _) _ = true)); walk_at "il")
  | with_reducible refine w_tryK ?_
  | with_reducible refine w_raise ?_
  | with_reducible refine w_raise0 ?_
  | with_reducible refine w_isX ?_
  | ((with_reducible refine w_isXK (k := ?_) ?_ ?_); rotate_left; (first | with_reducible exact lkA | (apply lkB; decide +kernel; exact lkA) | (apply lkB; decide +kernel; apply lkB; decide +kernel; exact lkA) | (apply lkB; decide +kernel; apply lkB; decide +kernel; apply lkB; decide +kernel; exact lkA)))
  | with_reducible refine w_xf ?_
  | ((with_reducible refine w_xfK ?_ ?_ ?_); (exact List.mem_cons_self); (decide))
  | with_reducible refine w_eq (isN_xo _) ?_
  | with_reducible refine w_eq (dNeg_int _ _) ?_)
local macro_rules | `(tactic| walk_at "go") => `(tactic| (repeat (walk_at "w")); try dsimp only [List.set])
local macro_rules | `(tactic| walk_at "fn") => `(tactic| ((refine w_fun ?_); simp only [startD, List.map_cons, List.map_nil, List.reduceReplicate, Nat.reduceSub, List.cons_append, List.nil_append]; walk_at "go"))
local macro_rules | `(tactic| walk_at "lk") => `(tactic| first | with_reducible exact lkA | (apply lkB; decide +kernel; walk_at "lk"))
local macro_rules | `(tactic| walk_at "mk") => `(tactic| first | with_reducible exact mkA | (apply mkB; decide +kernel; walk_at "mk"))
local macro_rules | `(tactic| walk_at "fk") => `(tactic| first | with_reducible exact fkA | exact fkN | (apply fkB; decide +kernel; walk_at "fk"))
local macro_rules | `(tactic| walk_at "cs") => `(tactic| first | exact List.mem_cons_self | (apply List.mem_cons_of_mem; walk_at "cs"))
local macro_rules | `(tactic| walk_at "w") => `(tactic| first
  | with_reducible refine w_fld ?_
  | ((with_reducible refine w_fldK (c := ?_) (fs := ?_) (v := ?_) ?_ ?_ ?_ ?_); rotate_left; rotate_left; rotate_left; (with_reducible assumption); (walk_at "cs"); (walk_at "fk"))
  | with_reducible refine w_setFld ?_
  | with_reducible refine w_new ?_
  | with_reducible refine w_methI ?_
  | ((with_reducible refine w_methK (c := ?_) (fs := ?_) (F := ?_) ?_ ?_ ?_ ?_); rotate_left; rotate_left; rotate_left; (with_reducible assumption); (walk_at "mk"); (walk_at "fk"))
  | with_reducible refine w_isC ?_
  | ((with_reducible refine w_isCK (c := ?_) (fs := ?_) (k := ?_) ?_ ?_ ?_); rotate_left; rotate_left; rotate_left; (with_reducible assumption); (walk_at "lk"))
  | with_reducible refine w_callD ?_
  | with_reducible refine w_mDSet ?_
  | with_reducible refine w_eq (nN_non _) ?_
  | with_reducible refine w_eq (nN_int _ _) ?_
  | with_reducible refine w_eq (nN_tup _ _) ?_
  | with_reducible refine w_eq (nN_ref _ _) ?_
  | with_reducible refine w_eq (iN_non _) ?_
  | with_reducible refine w_eq (iN_int _ _) ?_
  | with_reducible refine w_eq (iN_tup _ _) ?_
  | with_reducible refine w_eq (iN_ref _ _) ?_)
/-! a book of rules -/
def rlD (r : Rw3) (d : D) : D := .tup [.str r.1, .str r.2.1, d]
structure Hand (h : MH) (rs : List Rw3) (ps : List PT) (ds : List D) : Prop where
  lp : ps.length = rs.length
  pat : Pats h ps ds
  fit : ∀ p ∈ ps, Fit p
  fm : ∀ (k : Nat) r p, rs[k]? = some r → ps[k]? = some p → ∀ x, x ∈ p.fms ↔ x ∈ r.2.2.2
def handD (rs : List Rw3) (ds : List D) : List D := List.zipWith rlD rs ds
theorem hand_at {rs : List Rw3} {ds : List D} {k : Nat} {r : Rw3} {d : D} (e1 : rs[k]? = some r) (e2 : ds[k]? = some d) : atI (handD rs ds) (0 + (k : Int)) = some (rlD r d) := by
  rw [Int.zero_add]
  refine atI_at ?_
  unfold handD
  rw [List.getElem?_zipWith, e1, e2]
theorem hand_len {rs : List Rw3} {ds : List D} (e : ds.length = rs.length) : (handD rs ds).length = rs.length := by
  unfold handD
  rw [List.length_zipWith, e, Nat.min_self]
theorem k_book {h : MH} {i : Nat} {rs : List Rw3} {ps : List PT} {ds : List D} (hl : getL h i = some (handD rs ds)) (H : Hand h rs ps ds) (hn : rs.length ≤ 100) :
    Sat (m_book_of_964ed [.ref i] h) (fun y h' => h <+: h' ∧ y = .tup (handD rs ds) ∧ Due rs .non) (fun x fs h' => h <+: h' ∧ ∃ k : Int, x = Str.ofString "NoBook" ∧ fs = [(Str.ofString "row", .int k)] ∧ Due rs (.int k)) := by
  have hdl : ds.length = rs.length := by rw [H.pat.len, H.lp]
  have hhl := hand_len hdl
  have rng : ∀ k : Nat, k < (rangeD 0 ((handD rs ds).length : Int).toNat).length ↔ k < rs.length := fun k => by simp [hhl]
  have cell : ∀ k : Nat, k < rs.length → ∃ r p d, rs[k]? = some r ∧ ps[k]? = some p ∧ ds[k]? = some d ∧ Pat h p d ∧ Fit p := fun k hk => by
    have e1 := List.getElem?_eq_getElem hk
    have e3 := List.getElem?_eq_getElem (l := ds) (i := k) (by omega)
    obtain ⟨p, e2, x⟩ := H.pat.get e3
    exact ⟨_, p, _, e1, e2, e3, x, H.fit p (List.mem_of_getElem? e2)⟩
  walk_at "fn"
  rw [hhl]
  refine br_d (fun q => ?_) (fun q => ?_)
  · walk_at "go"
    exact ⟨List.prefix_rfl, 0, rfl, rfl, .inl ⟨by omega, rfl⟩⟩
  walk_at "go"
  rw [hhl]
  refine br_d (fun q2 => ?_) (fun q2 => ?_)
  · walk_at "go"
    exact ⟨List.prefix_rfl, 8, rfl, rfl, .inr (.inl ⟨by omega, rfl⟩)⟩
  have hrl : 0 < rs.length ∧ rs.length ≤ 8 := by omega
  walk_at "go"
  refine c_dict0 (Cel.nil h) fun iD h1 c1 => ?_
  have hl1 := pre_getL c1.pre hl
  walk_at "go"
  refine w_loop0 (fun k ρ h' => ∃ (kvs : List (Key × D)) (o2 o3 : Option D), ρ = [some (.ref i), some (.ref iD), o2, o3] ∧ Cel h h' [(iD, .dK kvs)] ∧ strKeys kvs = some ((rs.map (·.1)).take k) ∧ kvs.length ≤ k ∧ ∀ j, j < k → ¬ Dup (rs.map (·.1)) j)
    ⟨[], none, none, rfl, c1, rfl, by simp, fun j hj => by omega⟩ (fun _ _ _ _ => rfl) ?_ ?_
  · rintro k d ρ h' hd ⟨kvs, o2, o3, rfl, c, hks, hkl, hdup⟩
    obtain ⟨hk, rfl⟩ := rangeD_get hd
    have hk : k < rs.length := by simpa [hhl] using hk
    obtain ⟨r, p, d, e1, e2, e3, xp, fp⟩ := cell k hk
    have a1 := hand_at e1 e3
    unfold rlD at a1
    have hl' := pre_getL c.pre hl
    have hd1 : Dup (rs.map (·.1)) k ↔ r.1 ∈ (rs.map (·.1)).take k := by
      unfold Dup
      rw [List.getElem?_map, e1]
      simp
    have e4 : (rs.map (·.1))[k]? = some r.1 := by rw [List.getElem?_map, e1]; rfl
    refine ⟨_, rfl, ?_⟩
    dsimp only [List.set]
    walk_at "go"
    refine w_dIn rfl (c.at 0 rfl) ?_
    rw [strKeys_val _ hks]
    walk_at "go"
    refine br_d (fun z => ?_) (fun z => ?_)
    · walk_at "go"
      exact ⟨c.pre, 0 + (k : Int), rfl, rfl, .inr (.inr ⟨hrl, .inl ⟨k, ⟨hk, hd1.mpr z, hdup⟩, by rw [Int.zero_add]⟩⟩)⟩
    · walk_at "go"
      refine c_dSet rfl c 0 rfl (by omega) fun h2 c2 => ?_
      refine ⟨_, _, _, rfl, c2, ?_, ?_, fun j hj => ?_⟩
      · rw [strKeys_put _ _ hks, if_neg z, take_snP e4]
      · have := putKD_len kvs (.inr r.1) (.bl true); omega
      · rcases Nat.lt_or_ge j k with y | y
        · exact hdup j y
        · have : j = k := by omega
          rw [this, hd1]; exact z
  rintro ρ h2 ⟨kvs, o2, o3, rfl, c, hks, hkl, hdup⟩
  have hdup' : ∀ j, j < rs.length → ¬ Dup (rs.map (·.1)) j := fun j hj => hdup j ((rng j).mpr hj)
  have htk : (rs.map (·.1)).take (rangeD 0 ((handD rs ds).length : Int).toNat).length = rs.map (·.1) := List.take_of_length_le (by simp [hhl])
  rw [htk] at hks
  clear hdup hkl
  have hl2 := pre_getL c.pre hl
  walk_at "go"
  refine w_loop0 (fun k ρ h' => ∃ (o2 o3 : Option D), ρ = [some (.ref i), some (.ref iD), o2, o3] ∧ Cel h h' [(iD, .dK kvs)] ∧ ∀ j, j < k → ¬ Miss rs j)
    ⟨_, _, rfl, c, fun j hj => by omega⟩ (fun _ _ _ _ => rfl) ?_ ?_
  · rintro k d ρ h' hd ⟨o2, o3, rfl, c, hmis⟩
    obtain ⟨hk, rfl⟩ := rangeD_get hd
    have hk : k < rs.length := by simpa [hhl] using hk
    obtain ⟨r, p, d, e1, e2, e3, xp, fp⟩ := cell k hk
    have a1 := hand_at e1 e3
    unfold rlD at a1
    have hl' := pre_getL c.pre hl
    have hfm := H.fm k r p e1 e2
    refine ⟨_, rfl, ?_⟩
    dsimp only [List.set]
    walk_at "go"
    refine Sat.mono (Q := SpkQ p h') (k_speaks 40 p d h' _ (xp.mono c.pre) (by have := fp.dep; omega) fp.sz) ?_
    rintro y h3 ⟨j, ys, rfl, o3', hy, hyl⟩
    have c3 : Cel h h3 [(j, .lst (ys.map .str)), (iD, .dK kvs)] := c.trans o3'.cel
    refine w_iterL (c3.atL 0 rfl) ?_
    dsimp only
    refine w_loop0 (fun m ρ h'' => h'' = h3 ∧ (∃ o3, ρ = [some (.ref i), some (.ref iD), some (.int (0 + (k : Int))), o3]) ∧ ∀ x ∈ ys.take m, x ∈ rs.map (·.1)) ⟨rfl, ⟨_, rfl⟩, fun x hx => by simp at hx⟩ (fun _ _ h'' z => by rw [z.1]; exact decide_eq_true (c3.atL 0 rfl)) ?_ ?_
    · rintro m d' ρ h'' hd' ⟨rfl, ⟨o3, rfl⟩, hall⟩
      rw [List.getElem?_map, Option.map_eq_some_iff] at hd'
      obtain ⟨x, ex, rfl⟩ := hd'
      refine ⟨_, rfl, ?_⟩
      dsimp only [List.set]
      walk_at "go"
      refine w_dNotIn rfl (c3.at 1 rfl) ?_
      rw [strKeys_val _ hks]
      walk_at "go"
      refine br_d (fun z => ?_) (fun z => ?_)
      · walk_at "go"
        refine ⟨rfl, ⟨_, rfl⟩, ?_⟩
        rw [take_snP ex]
        exact mem_app hall z
      · walk_at "go"
        exact ⟨c3.pre, 0 + (k : Int), rfl, rfl, .inr (.inr ⟨hrl, .inr ⟨hdup', .inl ⟨k, ⟨hk, ⟨r, e1, x, (hfm x).mp ((hy x).mp (List.mem_of_getElem? ex)), z⟩, hmis⟩, by rw [Int.zero_add]⟩⟩⟩)⟩
    · rintro ρ h'' ⟨rfl, ⟨o3, rfl⟩, hall⟩
      rw [List.length_map, List.take_length] at hall
      refine ⟨_, _, rfl, c3.tail, fun j hj => ?_⟩
      rcases Nat.lt_or_ge j k with y | y
      · exact hmis j y
      · have : j = k := by omega
        subst this
        rintro ⟨r', e1', x, hx, hn⟩
        rw [e1] at e1'
        cases e1'
        exact hn (hall x ((hy x).mpr ((hfm x).mpr hx)))
  · rintro ρ h3 ⟨o2, o3, rfl, c, hmis⟩
    have hl3 := pre_getL c.pre hl
    walk_at "go"
    exact ⟨c.pre, rfl, .inr (.inr ⟨hrl, .inr ⟨hdup', .inr ⟨fun j hj => hmis j ((rng j).mpr hj), rfl⟩⟩⟩)⟩
/-! alike -/
theorem k_alike {h : MH} {iR iT : Nat} {rs : List Rw3} {ps : List PT} {ds : List D} {f : D} (hf : f = .tup (handD rs ds) ∨ ∃ j, f = .ref j ∧ getL h j = some (handD rs ds)) (hR : getL h iR = some (rs.map r3D)) (hT : getL h iT = some (ps.map PT.tD)) (H : Hand h rs ps ds) (hn : rs.length ≤ 100) :
    Sat (m_alike_1e0ec [f, .ref iR, .ref iT] h) (fun y h' => h <+: h' ∧ y = .bl true) noX := by
  have hdl : ds.length = rs.length := by rw [H.pat.len, H.lp]
  have hhl := hand_len hdl
  have at3 : ∀ (k : Nat) r, rs[k]? = some r → atI (rs.map r3D) (0 + (k : Int)) = some (r3D r) := fun k r e => by rw [Int.zero_add]; exact atI_at (by rw [List.getElem?_map, e]; rfl)
  have atT : ∀ (k : Nat) p, ps[k]? = some p → atI (ps.map PT.tD) (0 + (k : Int)) = some p.tD := fun k r e => by rw [Int.zero_add]; exact atI_at (by rw [List.getElem?_map, e]; rfl)
  have flen : Sat (dLen [f] h) (fun y h' => h' = h ∧ y = .int rs.length) noX := by
    rcases hf with rfl | ⟨j, rfl, hj⟩
    · exact w_eq (dLen_tup _ _) ⟨rfl, by rw [hhl]⟩
    · exact w_lenL hj ⟨rfl, by rw [hhl]⟩
  have fix : ∀ (k : Nat) r d (h' : MH), rs[k]? = some r → ds[k]? = some d → h <+: h' → Sat (dIx f (.int (0 + (k : Int))) h') (fun y h'' => h'' = h' ∧ y = rlD r d) noX := fun k r d h' e1 e2 pr => by
    rcases hf with rfl | ⟨j, rfl, hj⟩
    · exact w_ixT (hand_at e1 e2) ⟨rfl, rfl⟩
    · exact w_ixL (pre_getL pr hj) (hand_at e1 e2) ⟨rfl, rfl⟩
  clear hf
  walk_at "fn"
  refine flen.mono ?_
  rintro y h1 ⟨rfl, rfl⟩
  walk_at "go"
  refine w_loop0 (fun k ρ h' => h1 <+: h' ∧ ∃ o3 o4, ρ = [some f, some (.ref iR), some (.ref iT), o3, o4]) ⟨List.prefix_rfl, none, none, rfl⟩ (fun _ _ _ _ => rfl) ?_ ?_
  · rintro k d ρ h' hd ⟨pr, o3, o4, rfl⟩
    obtain ⟨hk, rfl⟩ := rangeD_get hd
    have hk : k < rs.length := by simpa using hk
    have e1 := List.getElem?_eq_getElem hk
    have e3 := List.getElem?_eq_getElem (l := ds) (i := k) (by omega)
    obtain ⟨p, e2, xp⟩ := H.pat.get e3
    have fp := H.fit p (List.mem_of_getElem? e2)
    have a1 := at3 k _ e1
    have a2 := atT k _ e2
    have pl := tD_pln p fp.ok 40 (by have := fp.dep; omega)
    have hR' := pre_getL pr hR
    have fx := fix k _ _ h' e1 e3 pr
    generalize rs[k] = r at *
    generalize ds[k] = dd at *
    unfold r3D at a1
    unfold rlD at fx
    refine ⟨_, rfl, ?_⟩
    dsimp only [List.set]
    walk_at "go"
    refine fx.mono ?_
    rintro y h2 ⟨rfl, rfl⟩
    walk_at "go"
    refine w_ixL hR' a1 ?_
    walk_at "go"
    refine w_ixL hR' a1 ?_
    walk_at "go"
    refine (k_told 40 p dd h2 _ (xp.mono pr) (by have := fp.dep; omega) fp.sz).mono ?_
    rintro y h3 ⟨p3, rfl⟩
    have hT' := pre_getL (pr.trans p3) hT
    walk_at "go"
    refine w_neP pl pl (by decide) ?_
    walk_at "go"
    exact ⟨pr.trans p3, _, _, rfl⟩
  · rintro ρ h' ⟨pr, o3, o4, rfl⟩
    walk_at "go"
    exact ⟨pr, rfl⟩
end Mi

namespace Mi
open PySem L2
local macro_rules | `(tactic| walk_at "gl") => `(tactic| first
  | assumption
  | (refine Own.atL (h0 := ?_) (L := ?_) ?_ 0 ?_; rotate_left; rotate_left; assumption; rfl)
  | (refine Own.atL (h0 := ?_) (L := ?_) ?_ 1 ?_; rotate_left; rotate_left; assumption; rfl)
  | (refine Own.atL (h0 := ?_) (L := ?_) ?_ 2 ?_; rotate_left; rotate_left; assumption; rfl)
  | (refine Own.atL (h0 := ?_) (L := ?_) ?_ 3 ?_; rotate_left; rotate_left; assumption; rfl)
  | (refine Own.atL (h0 := ?_) (L := ?_) ?_ 4 ?_; rotate_left; rotate_left; assumption; rfl)
  | (refine Own.atL (h0 := ?_) (L := ?_) ?_ 5 ?_; rotate_left; rotate_left; assumption; rfl)
  | (refine Own.atL (h0 := ?_) (L := ?_) ?_ 6 ?_; rotate_left; rotate_left; assumption; rfl)
  | (refine Own.atL (h0 := ?_) (L := ?_) ?_ 7 ?_; rotate_left; rotate_left; assumption; rfl)
  | (refine Own.atL (h0 := ?_) (L := ?_) ?_ 8 ?_; rotate_left; rotate_left; assumption; rfl)
  | (refine Own.atL (h0 := ?_) (L := ?_) ?_ 9 ?_; rotate_left; rotate_left; assumption; rfl)
  | (refine Own.getL (h0 := ?_) (L := ?_) ?_ ?_; rotate_left; rotate_left; assumption; assumption))
local macro_rules | `(tactic| walk_at "il") => `(tactic| first
  | (refine Own.isL (h0 := ?_) (L := ?_) (l := ?_) ?_ 0 ?_; rotate_left; rotate_left; rotate_left; assumption; rfl)
  | (refine Own.isL (h0 := ?_) (L := ?_) (l := ?_) ?_ 1 ?_; rotate_left; rotate_left; rotate_left; assumption; rfl)
  | (refine Own.isL (h0 := ?_) (L := ?_) (l := ?_) ?_ 2 ?_; rotate_left; rotate_left; rotate_left; assumption; rfl)
  | (refine Own.isL (h0 := ?_) (L := ?_) (l := ?_) ?_ 3 ?_; rotate_left; rotate_left; rotate_left; assumption; rfl)
  | (refine Own.isL (h0 := ?_) (L := ?_) (l := ?_) ?_ 4 ?_; rotate_left; rotate_left; rotate_left; assumption; rfl)
  | (refine Own.isL (h0 := ?_) (L := ?_) (l := ?_) ?_ 5 ?_; rotate_left; rotate_left; rotate_left; assumption; rfl)
  | (refine Own.isL (h0 := ?_) (L := ?_) (l := ?_) ?_ 6 ?_; rotate_left; rotate_left; rotate_left; assumption; rfl)
  | (refine Own.isL (h0 := ?_) (L := ?_) (l := ?_) ?_ 7 ?_; rotate_left; rotate_left; rotate_left; assumption; rfl)
  | (refine Own.isL (h0 := ?_) (L := ?_) (l := ?_) ?_ 8 ?_; rotate_left; rotate_left; rotate_left; assumption; rfl)
  | (refine Own.isL (h0 := ?_) (L := ?_) (l := ?_) ?_ 9 ?_; rotate_left; rotate_left; rotate_left; assumption; rfl))
local macro_rules | `(tactic| walk_at "bd") => `(tactic| first | assumption | omega | (simp; done) | (simp; omega) | (simp [*]; done) | (simp [*]; omega))
local macro_rules | `(tactic| walk_at "w") => `(tactic| first
  | with_reducible refine w_seq ?_
  | with_reducible refine w_asg ?_
  | with_reducible refine w_cons ?_
  | with_reducible refine w_nil ?_
  | with_reducible refine w_c ?_
  | ((with_reducible refine w_var (d := ?_) ?_ ?_); rotate_left; rfl)
  | with_reducible refine w_bin ?_
  | with_reducible refine w_call ?_
  | with_reducible refine w_if ?_
  | with_reducible refine w_B ?_
  | with_reducible refine w_unB ?_
  | with_reducible refine w_ret ?_
  | with_reducible refine w_drop ?_
  | with_reducible refine w_skip ?_
  | with_reducible refine w_eq (dAdd_int _ _ _) ?_
  | with_reducible refine w_eq (dSub_int _ _ _) ?_
  | with_reducible refine w_eq (dEq_int _ _ _) ?_
  | with_reducible refine w_eq (dEq_str _ _ _) ?_
  | with_reducible refine w_eq (dNe_strs _ _ _) ?_
  | with_reducible refine w_eq (dEq_bls _ _ _) ?_
  | with_reducible refine w_eq (dNe_bls _ _ _) ?_
  | with_reducible refine w_eq (dLt_int _ _ _) ?_
  | with_reducible refine w_eq (dLe_int _ _ _) ?_
  | with_reducible refine w_eq (dGt_int _ _ _) ?_
  | with_reducible refine w_eq (dGe_int _ _ _) ?_
  | with_reducible refine w_eq (dNe_int _ _ _) ?_
  | ((with_reducible refine w_mod ?_ ?_); (first | assumption | decide | omega))
  | ((with_reducible refine w_fdiv ?_ ?_); (first | assumption | decide | omega))
  | ((with_reducible refine w_mulS ?_ ?_); (first | decide | omega))
  | ((with_reducible refine w_addS ?_ ?_); (first | assumption | decide | omega))
  | ((with_reducible refine w_lenS ?_ ?_); (first | assumption | decide | omega))
  | ((with_reducible refine w_slS ?_ ?_); (first | assumption | decide | omega))
  | with_reducible refine w_lenTm ?_
  | with_reducible refine w_eq (dLen_tup _ _) ?_
  | with_reducible refine w_eq (dSl_tup _ _ _ _) ?_
  | with_reducible refine w_eq (dMax_ev _ _ _) ?_
  | with_reducible refine w_eq (dMin_ev _ _ _) ?_
  | with_reducible refine w_eq (dAbs_ev _ _) ?_
  | with_reducible refine w_not ?_
  | with_reducible refine w_and ?_
  | with_reducible refine w_or ?_
  | with_reducible refine br_n ?_
  | with_reducible refine br_tt ?_
  | with_reducible refine br_ff ?_
  | ((with_reducible refine br_dt ?_ ?_); (first | assumption | omega | rfl))
  | ((with_reducible refine br_df ?_ ?_); (first | assumption | omega))
  | with_reducible refine w_tup ?_
  | ((with_reducible refine w_toTup ?_ ?_); exact (by simp))
  | with_reducible refine w_lst ?_
  | with_reducible refine w_lc ?_
  | with_reducible refine w_for ?_
  | with_reducible refine w_range1 ?_
  | with_reducible refine w_range2 ?_
  | ((with_reducible refine w_dR1 ?_ ?_); (first | decide | omega))
  | ((with_reducible refine w_dR2 ?_ ?_); (first | decide | omega))
  | with_reducible refine w_iter ?_
  | with_reducible refine w_eq (iter1_tup _ _) ?_
  | with_reducible refine w_eq (iter1_str _ _) ?_
  | with_reducible refine w_sl ?_
  | with_reducible refine w_no ?_
  | with_reducible refine w_some ?_
  | with_reducible refine w_unI ?_
  | with_reducible refine w_meth ?_
  | with_reducible refine w_isi ?_
  | with_reducible refine w_zip ?_
  | with_reducible refine w_ifE ?_
  | with_reducible refine w_andV ?_
  | with_reducible refine w_orV ?_
  | with_reducible refine w_notV ?_
  | with_reducible refine w_andK ?_
  | with_reducible refine w_orK ?_
  | with_reducible refine w_notK ?_
  | with_reducible refine w_revL ?_
  | with_reducible refine w_listRg1 ?_
  | with_reducible refine w_tindex ?_
  | with_reducible refine w_setIx ?_
  | with_reducible refine w_un ?_
  | with_reducible refine w_rev1 ?_
  | with_reducible refine w_rev2 ?_
  | with_reducible refine w_chain ?_
  | with_reducible refine w_chK ?_
  | with_reducible refine w_retN ?_
  | with_reducible refine w_brk ?_
  | with_reducible refine w_cont ?_
  | with_reducible refine w_asgT ?_
  | with_reducible refine w_eq (isi_str_str _ _) ?_
  | with_reducible refine w_eq (isi_int_int _ _) ?_
  | with_reducible refine w_eq (isi_tup_tup _ _) ?_
  | with_reducible refine w_eq (isi_bool_int _ _) ?_
  | with_reducible refine w_eq (isi_str_int _ _) ?_
  | ((with_reducible refine w_lenLm (α := ?_) (f := ?_) (l := ?_) ?_ ?_); rotate_left; rotate_left; rotate_left; walk_at "gl")
  | ((with_reducible refine w_lenL (l := ?_) ?_ ?_); rotate_left; walk_at "gl")
  | ((with_reducible refine w_iterL (l := ?_) ?_ ?_); rotate_left; walk_at "gl"; dsimp only)
  | ((with_reducible refine w_tupL (l := ?_) ?_ ?_); rotate_left; walk_at "gl")
  | ((with_reducible refine w_ixT (d := ?_) ?_ ?_); rotate_left; (first | with_reducible assumption | rfl))
  | ((with_reducible refine w_ixL (l := ?_) (d := ?_) ?_ ?_ ?_); rotate_left; rotate_left; walk_at "gl"; (first | with_reducible assumption | rfl))
  | ((with_reducible refine w_addT ?_ ?_); walk_at "bd")
  | ((with_reducible refine ⟨?_, ?_⟩); (with_reducible (show isListD (.ref _) _ = true)); walk_at "il")
  | with_reducible refine w_tryK ?_
  | with_reducible refine w_raise ?_
  | with_reducible refine w_raise0 ?_
  | with_reducible refine w_isX ?_
  | ((with_reducible refine w_isXK (k := ?_) ?_ ?_); rotate_left; (first | with_reducible exact lkA | (apply lkB; decide +kernel; exact lkA) | (apply lkB; decide +kernel; apply lkB; decide +kernel; exact lkA) | (apply lkB; decide +kernel; apply lkB; decide +kernel; apply lkB; decide +kernel; exact lkA)))
  | with_reducible refine w_xf ?_
  | ((with_reducible refine w_xfK ?_ ?_ ?_); (exact List.mem_cons_self); (decide))
  | with_reducible refine w_eq (isN_xo _) ?_
  | with_reducible refine w_eq (dNeg_int _ _) ?_)
local macro_rules | `(tactic| walk_at "go") => `(tactic| (repeat (walk_at "w")); try dsimp only [List.set])
local macro_rules | `(tactic| walk_at "fn") => `(tactic| ((refine w_fun ?_); simp only [startD, List.map_cons, List.map_nil, List.reduceReplicate, Nat.reduceSub, List.cons_append, List.nil_append]; walk_at "go"))
local macro_rules | `(tactic| walk_at "lk") => `(tactic| first | with_reducible exact lkA | (apply lkB; decide +kernel; walk_at "lk"))
local macro_rules | `(tactic| walk_at "mk") => `(tactic| first | with_reducible exact mkA | (apply mkB; decide +kernel; walk_at "mk"))
local macro_rules | `(tactic| walk_at "fk") => `(tactic| first | with_reducible exact fkA | exact fkN | (apply fkB; decide +kernel; walk_at "fk"))
local macro_rules | `(tactic| walk_at "cs") => `(tactic| first | exact List.mem_cons_self | (apply List.mem_cons_of_mem; walk_at "cs"))
local macro_rules | `(tactic| walk_at "w") => `(tactic| first
  | with_reducible refine w_fld ?_
  | ((with_reducible refine w_fldK (c := ?_) (fs := ?_) (v := ?_) ?_ ?_ ?_ ?_); rotate_left; rotate_left; rotate_left; (with_reducible assumption); (walk_at "cs"); (walk_at "fk"))
  | with_reducible refine w_setFld ?_
  | with_reducible refine w_new ?_
  | with_reducible refine w_methI ?_
  | ((with_reducible refine w_methK (c := ?_) (fs := ?_) (F := ?_) ?_ ?_ ?_ ?_); rotate_left; rotate_left; rotate_left; (with_reducible assumption); (walk_at "mk"); (walk_at "fk"))
  | with_reducible refine w_isC ?_
  | ((with_reducible refine w_isCK (c := ?_) (fs := ?_) (k := ?_) ?_ ?_ ?_); rotate_left; rotate_left; rotate_left; (with_reducible assumption); (walk_at "lk"))
  | with_reducible refine w_callD ?_
  | with_reducible refine w_mDSet ?_
  | with_reducible refine w_eq (nN_non _) ?_
  | with_reducible refine w_eq (nN_int _ _) ?_
  | with_reducible refine w_eq (nN_tup _ _) ?_
  | with_reducible refine w_eq (nN_ref _ _) ?_
  | with_reducible refine w_eq (iN_non _) ?_
  | with_reducible refine w_eq (iN_int _ _) ?_
  | with_reducible refine w_eq (iN_tup _ _) ?_
  | with_reducible refine w_eq (iN_ref _ _) ?_)
theorem k_refused21 {h : MH} {k : Int} : Sat (m_refused_77372 [.xo (Str.ofString "NoBook") (Str.ofString "row") (.int k), .int k] h) (fun y h' => h' = h ∧ y = .bl true) noX := by
  walk_at "fn"
  exact ⟨rfl, by simp⟩
theorem nN_xo {c f : Str} {v : D} (h : MH) : dNotN (.xo c f v) .non h = .ok (.bl true) h := by unfold dNotN; simp
theorem main_k21 (ns : List Int) (hn : ns.length ≤ 63) (hb : ∀ z ∈ ns, Cell z) : ∃ h', m_law_afabe [.ref 0] [.rol (ns.map D.int)] = .ok (.bl true) h' := by
  suffices s : Sat (m_law_afabe [.ref 0] [.rol (ns.map D.int)]) (fun d _ => d = .bl true) noX by
    obtain ⟨d, h, e, rfl⟩ := s.get
    exact ⟨h, e⟩
  have hl0 : getL [MO.rol (ns.map D.int)] 0 = some (ns.map D.int) := rfl
  generalize hh0 : [MO.rol (ns.map D.int)] = h0 at *
  walk_at "fn"
  refine (c_cell_at hb hl0 (by decide)).mono ?_
  rintro d h1 ⟨rfl, c, rfl, _⟩
  walk_at "go"
  refine n_names9.mono ?_
  rintro d h2 ⟨iP, pool, rfl, o2, hp9, hpn⟩
  have hl2 := pre_getL o2.pre hl0
  walk_at "go"
  refine (k_rows hb hl2 hpn hp9 (o2.atL 0 rfl)).mono ?_
  rintro d hB ⟨iR, rs, rfl, oB, hrl, hrs⟩
  have hlB := pre_getL oB.pre hl2
  have hRB : getL hB iR = some (rs.map r3D) := oB.atL 0 rfl
  have hrB : ∀ r ∈ rs, getL hB r.2.2.1 = some (r.2.2.2.map .str) := fun r hr => getL_of (oB.cell (cel r) (List.mem_cons_of_mem _ (List.mem_map.mpr ⟨r, hr, rfl⟩))).2
  have at3 : ∀ (k : Nat) r, rs[k]? = some r → atI (rs.map r3D) (0 + (k : Int)) = some (r3D r) := fun k r e => by rw [Int.zero_add]; exact atI_at (by rw [List.getElem?_map, e]; rfl)
  clear oB o2
  walk_at "go"
  refine o_compS (σ := LL) (fun s => s) (fun k acc s => acc = s.reverse.map (fun p => D.ref p.1) ∧ s.length = k ∧ ∀ p ∈ s, Tp p.2) (s0 := []) (Own.nil hB) ⟨rfl, rfl, fun p hp => by simp at hp⟩ (by simp; omega) (fun _ _ _ _ _ => rfl) ?_ ?_
  · rintro k d acc s cc h' hd ha ⟨hacc, hsl, htp⟩ ow
    obtain ⟨hk, rfl⟩ := rangeD_get hd
    refine ⟨_, rfl, ?_⟩
    dsimp only [wipeD, List.set]
    walk_at "go"
    refine (c_cell_at hb (pre_getL ow.pre hlB) (by omega)).mono ?_
    rintro d h3 ⟨rfl, c3, rfl, hc3⟩
    walk_at "go"
    refine (c_tape2 hc3 (n := 4) (by decide)).mono ?_
    rintro d h4 ⟨iT, l4, rfl, o4, t4⟩
    refine ⟨(iT, l4) :: s, (ow.trans o4).perm (List.Perm.swap _ _ _), ?_, by simp [hsl], fun p hp => ?_⟩
    · rw [hacc]; simp
    · rcases List.mem_cons.mp hp with rfl | hp
      · exact t4
      · exact htp p hp
  rintro refs s iTs hC ha ⟨hacc, hsl, htp⟩ oC
  have oC2 : Own hB hC ((iTs, refs) :: s.reverse) := oC.perm (List.Perm.cons _ (List.reverse_perm s).symm)
  have htp2 : ∀ p ∈ s.reverse, Tp p.2 := fun p hp => htp p (List.mem_reverse.mp hp)
  have hsl2 : s.reverse.length = rs.length := by
    rw [List.length_reverse, hsl]; simp
  clear htp hsl oC
  generalize s.reverse = cells at *
  clear ha
  have hRC := pre_getL oC2.pre hRB
  walk_at "go"
  refine w_comp (fun k acc h' => acc.length = k ∧ ∃ (cs : LL) (ps : List PT), Own hB h' ((hC.length, acc) :: (iTs, refs) :: cs) ∧ cs.map (·.1) = cells.map (·.1) ∧ (∀ p ∈ cs, Tp p.2) ∧ Pats h' ps acc ∧ (∀ p ∈ ps, Fit p) ∧ ∀ (j : Nat) r p, rs[j]? = some r → ps[j]? = some p → ∀ x, x ∈ p.fms ↔ x ∈ r.2.2.2)
    (k := 0) ⟨rfl, cells, [], oC2.alloc [], rfl, htp2, rfl, fun p hp => by simp at hp, fun j r p _ e => by simp at e⟩ (by simp) (by simp; omega) (fun _ _ _ _ => rfl) ?_ ?_
  · rintro k d acc h' hd ⟨hal, cs, ps, ow, hcs, htc, hpt, hfit, hfm⟩ hcc
    rw [Nat.zero_add] at hal ⊢
    obtain ⟨hk, rfl⟩ := rangeD_get hd
    have hk : k < rs.length := by simpa using hk
    have er := List.getElem?_eq_getElem hk
    have hcl : cs.length = rs.length := by
      have := congrArg List.length hcs
      rw [List.length_map, List.length_map] at this
      omega
    have ec := List.getElem?_eq_getElem (l := cs) (i := k) (by omega)
    have et : cells[k]? = some cells[k] := List.getElem?_eq_getElem (by omega)
    have eix : cs[k].1 = cells[k].1 := by
      have h1 : (cs.map (·.1))[k]? = some cs[k].1 := by rw [List.getElem?_map, ec]; rfl
      rw [hcs, List.getElem?_map, et] at h1
      simpa using h1.symm
    have aT : atI refs (0 + (k : Int)) = some (.ref cs[k].1) := by
      rw [Int.zero_add, hacc]
      refine atI_at ?_
      rw [List.getElem?_map, et, eix]; rfl
    have a3 := at3 k _ er
    have htk := htc cs[k] (List.getElem_mem (by omega))
    have eat := ow.at (i := cs[k].1) (l := cs[k].2) (k + 2) (show cs[k]? = _ from ec)
    have hrk := hrs rs[k] (List.getElem_mem hk)
    have hik := hrB rs[k] (List.getElem_mem hk)
    have hR' := pre_getL ow.pre hRB
    have hTs := ow.atL 1 rfl
    generalize rs[k] = r at *
    unfold r3D at a3
    refine ⟨_, rfl, true, _, rfl, (fun z => Bool.noConfusion z), fun _ => ?_⟩
    dsimp only [wipeD, List.set]
    walk_at "go"
    refine w_ixL hR' a3 ?_
    walk_at "go"
    refine (k_patX (pre_getL ow.pre hik) hrk.2.2.1 hrk.2.2.2 eat htk).mono ?_
    rintro y h2 ⟨sv, ⟨l', e2, t2⟩, p, xp, fp, gp⟩
    have o2 := ow.sv (n := k + 2) (i := cs[k].1) (l := cs[k].2) (show cs[k]? = _ from ec) sv e2
    simp only [List.set_cons_succ] at o2
    have hc2 := o2.at 0 rfl
    have svc : Sv hC.length h2 (h2.set hC.length (.lst (acc ++ [y]))) := ⟨⟨acc, hc2⟩, fun j o hj g => by rw [List.getElem?_set_ne (Ne.symm hj)]; exact g⟩
    have hpl := hpt.len
    refine ⟨hc2, by simp [hal], cs.set k (cs[k].1, l'), ps ++ [p], o2.setAt 0 rfl _, ?_, ?_, ?_, mem_app hfit fp, ?_⟩
    · rw [List.map_set, ← hcs]
      exact set_self (by rw [List.getElem?_map, ec]; rfl)
    · intro q hq
      rcases List.mem_or_eq_of_mem_set hq with hq | rfl
      · exact htc q hq
      · exact t2
    · exact (Pats.kin svc.kin _ _ (Pats.kin sv.kin _ _ hpt)).snoc (xp.sv svc)
    · intro j r' p' e1' e2'
      rcases Nat.lt_or_ge j ps.length with z | z
      · rw [List.getElem?_append_left z] at e2'
        exact hfm j r' p' e1' e2'
      · rw [List.getElem?_append_right z] at e2'
        have : j - ps.length = 0 := by
          have := (List.getElem?_eq_some_iff.mp e2').1
          simp at this; omega
        rw [this] at e2'
        simp at e2'
        have : j = k := by omega
        subst this
        rw [er] at e1'
        cases e1'
        rw [← e2']
        exact gp
  rintro ds hD ⟨hal, cs, ps, oD, hcs, htc, hpt, hfit, hfm⟩ hcc
  rw [Nat.zero_add] at hal
  have hal : ds.length = rs.length := by rw [hal]; simp
  have hRD := pre_getL oD.pre hRB
  have hDs := oD.atL 0 rfl
  have hrD : ∀ r ∈ rs, getL hD r.2.2.1 = some (r.2.2.2.map .str) := fun r hr => pre_getL oD.pre (hrB r hr)
  have hHand : Hand hD rs ps ds := ⟨by rw [← hpt.len, hal], hpt, hfit, hfm⟩
  have hpl : ps.length = rs.length := hHand.lp
  clear oD hcs htc hRC oC2 htp2 hacc hRB hlB hrB hl2 hsl2
  generalize hC.length = iD at *
  walk_at "go"
  refine o_compS (σ := Unit) (fun _ => []) (fun k acc _ => acc = ((ps.take k).map PT.tD)) (s0 := ()) (Own.nil hD) rfl (by omega) (fun _ _ _ h' o => decide_eq_true (pre_getL o.pre hDs)) ?_ ?_
  · rintro k d acc _ cc h' hd' ha hI ow
    obtain ⟨p, ep, hpp⟩ := hpt.get hd'
    have fp := hfit p (List.mem_of_getElem? ep)
    refine ⟨_, rfl, ?_⟩
    dsimp only [wipeD, List.set]
    walk_at "go"
    refine (k_told 40 p d h' _ (hpp.mono ow.pre) (by have := fp.dep; omega) fp.sz).mono ?_
    rintro y h2 ⟨p2, rfl⟩
    refine ⟨(), ow.ext p2, ?_⟩
    rw [hI, take_snP ep, List.map_append]
    rfl
  rintro acc _ iT hE ha hI oE
  rw [hal, ← hpl, List.take_length] at hI
  subst hI
  have hTE : getL hE iT = some (ps.map PT.tD) := oE.atL 0 rfl
  have hRE := pre_getL oE.pre hRD
  have hDE := pre_getL oE.pre hDs
  have hrE : ∀ r ∈ rs, getL hE r.2.2.1 = some (r.2.2.2.map .str) := fun r hr => pre_getL oE.pre (hrD r hr)
  have hHE : Hand hE rs ps ds := ⟨hHand.lp, hHand.pat.mono oE.pre, hHand.fit, hHand.fm⟩
  clear oE
  walk_at "go"
  refine o_comp (fun k y => ∃ r d, rs[k]? = some r ∧ ds[k]? = some d ∧ y = rlD r d) (Own.nil hE) (by simp; omega) (fun _ _ => rfl) ?_ ?_
  · rintro k d h' hd pr
    obtain ⟨hk, rfl⟩ := rangeD_get hd
    have hk : k < rs.length := by simpa using hk
    have er := List.getElem?_eq_getElem hk
    have ed := List.getElem?_eq_getElem (l := ds) (i := k) (by omega)
    have a3 := at3 k _ er
    have aD : atI ds (0 + (k : Int)) = some ds[k] := by rw [Int.zero_add]; exact atI_at ed
    have hR' := pre_getL pr hRE
    have hD' := pre_getL pr hDE
    generalize rs[k] = r at *
    generalize ds[k] = dd at *
    unfold r3D at a3
    refine ⟨_, rfl, ?_⟩
    dsimp only [wipeD, List.set]
    walk_at "go"
    refine w_ixL hR' a3 ?_
    walk_at "go"
    refine w_ixL hR' a3 ?_
    walk_at "go"
    exact ⟨rfl, r, dd, er, ed, rfl⟩
  rintro ys hy hp iH hF oF
  have hys : ys = handD rs ds := by
    refine List.ext_getElem? fun i => ?_
    unfold handD
    rw [List.getElem?_zipWith]
    cases e : ys[i]? with
    | none =>
      have : rs.length ≤ i := by
        have := List.getElem?_eq_none_iff.mp e
        rw [hy] at this
        simpa using this
      rw [List.getElem?_eq_none_iff.mpr this]
    | some y =>
      obtain ⟨r, d, e1, e2, rfl⟩ := hp i y e
      rw [e1, e2]
  subst hys
  have HF : ∀ {h' : MH}, hE <+: h' → Hand h' rs ps ds := fun pr => ⟨hHE.lp, hHE.pat.mono pr, hHE.fit, hHE.fm⟩
  walk_at "go"
  refine (k_due (pre_getL oF.pre hRE) (fun r hr => pre_getL oF.pre (hrE r hr)) (by omega)).mono ?_
  rintro du hG ⟨pG, hdue⟩
  have oG := oF.ext pG
  walk_at "go"
  refine Sat.monoE (k_book (oG.atL 0 rfl) (HF oG.pre) (by omega)) ?_ ?_
  · rintro y hH ⟨pH, rfl, hd2⟩
    obtain rfl := hdue.eq hd2
    have oH := oG.ext pH
    walk_at "go"
    refine (k_alike (.inr ⟨iH, rfl, oH.atL 0 rfl⟩) (pre_getL oH.pre hRE) (pre_getL oH.pre hTE) (HF oH.pre) (by omega)).mono ?_
    rintro y hI ⟨pI, rfl⟩
    have oI := oH.ext pI
    walk_at "go"
    refine o_clear oI 0 rfl fun hJ oJ => ?_
    walk_at "go"
    refine (k_alike (.inl rfl) (pre_getL oJ.pre hRE) (pre_getL oJ.pre hTE) (HF oJ.pre) (by omega)).mono ?_
    rintro y hK ⟨pK, rfl⟩
    rfl
  · rintro x fs hH ⟨pH, k, rfl, rfl, hd2⟩
    obtain rfl := hdue.eq hd2
    have oH := oG.ext pH
    refine tryE_t (by walk_at "lk") rfl ?_
    dsimp only [List.set]
    walk_at "go"
    refine (k_alike (.inr ⟨iH, rfl, oH.atL 0 rfl⟩) (pre_getL oH.pre hRE) (pre_getL oH.pre hTE) (HF oH.pre) (by omega)).mono ?_
    rintro y hI ⟨pI, rfl⟩
    walk_at "go"
    refine w_eq (nN_xo _) ?_
    walk_at "go"
    refine k_refused21.mono ?_
    rintro y hJ ⟨rfl, rfl⟩
    rfl
end Mi

namespace Sk21
open PySem L2 Mi
def top (i : Nat) : Stmt := PySem.Challenge.pw_graftform_k21_books_made.main.body.getD i (.Pass ⟨0, 0, 0, 0⟩)
/-- what the top leaves: names of built-ins that are not bound, constants -/
structure Txt (K : PySem.W.Frag) (mg : Str → Option Value) : Prop where
  b_ValueError : mg "ValueError" = none
  b_bool : mg "bool" = none
  b_int : mg "int" = none
  b_isinstance : mg "isinstance" = none
  b_len : mg "len" = none
  b_list : mg "list" = none
  b_min : mg "min" = none
  b_range : mg "range" = none
  b_sorted : mg "sorted" = none
  b_str : mg "str" = none
  b_tuple : mg "tuple" = none
  g_RULES : ∃ t, mg "RULES" = some (.int (8) t)
  ct_form : CT K "form" [(Str.ofString "One")]
  ct_high : CT K "high" [(Str.ofString "Times")]
  ct_low : CT K "low" [(Str.ofString "Times")]
  ct_part : CT K "part" [(Str.ofString "Times")]
  ct_parts : CT K "parts" [(Str.ofString "Chain"), (Str.ofString "Choice"), (Str.ofString "Mixed")]
  ex_NoBook : ExT K mg "NoBook" [((Str.ofString "NoBook"), true), ((Str.ofString "NoPattern"), false)]
  fl_row : FlT K "row" [(Str.ofString "NoBook")]
  ic_Chain : IsC K mg "Chain" [((Str.ofString "One"), false), ((Str.ofString "Chain"), true), ((Str.ofString "Choice"), false), ((Str.ofString "Times"), false), ((Str.ofString "Mixed"), false)]
  ic_Choice : IsC K mg "Choice" [((Str.ofString "One"), false), ((Str.ofString "Chain"), false), ((Str.ofString "Choice"), true), ((Str.ofString "Times"), false), ((Str.ofString "Mixed"), false)]
  ic_Mixed : IsC K mg "Mixed" [((Str.ofString "One"), false), ((Str.ofString "Chain"), false), ((Str.ofString "Choice"), false), ((Str.ofString "Times"), false), ((Str.ofString "Mixed"), true)]
  is_GraftError : IsT K mg "GraftError" [((Str.ofString "NoBook"), true), ((Str.ofString "NoPattern"), true)]
  is_NoForm_NoPattern_NoTurner : IsTs K mg [(Str.ofString "NoForm"), (Str.ofString "NoPattern"), (Str.ofString "NoTurner")] [((Str.ofString "NoBook"), false), ((Str.ofString "NoPattern"), true)]
  is_ValueError : IsB K "ValueError" [((Str.ofString "NoBook"), true), ((Str.ofString "NoPattern"), true)]
  r_NoPattern : X0 K mg "NoPattern"
theorem sc_init_NoBook : FnScope ["self", "row"] ["self", "row"] (defScope (inner (top 5) 0)) := ⟨rfl, rfl, rfl, by decide +kernel, rfl, by decide +kernel, by decide +kernel⟩
section
variable {P : Program} {w : World} {K : PySem.W.Frag} {mg : Str → Option Value} {base : Heap}
theorem sc__law_names : FnScope ["_law_cell", "_law_letters", "_law_start", "_law_base", "_law_at", "_law_first", "_law_k"] ["_law_cell"] (defScope (top 32)) := ⟨rfl, rfl, rfl, by decide +kernel, rfl, by decide +kernel, by decide +kernel⟩
theorem sim__law_names (T : Txt K mg) (d : Df K mg "_law_names" (top 32) ["_law_cell"]) : Cal P w K mg base "_law_names" 1 (m_names_c11ae) := by
  exact cal_mk (k := 0) d sc__law_names fun f cdv A outer s H E hr => by
   have tk : Takes (cxOf (L2.CX P w) P w K mg base ["_law_cell", "_law_letters", "_law_start", "_law_base", "_law_at", "_law_first", "_law_k"] "_law_names" (defScope (top 32)) f cdv A outer s H E) (fun c d _ H' => E c d H') := takes_of rfl rfl rfl rfl
   have hu : (A.deeper (PyProof.Rows.envOfC "_law_names" (defScope (top 32)) s.heap.objs.size f cdv)).units + 65 < cLine := by have := hr.un; omega
   have S := sc__law_names
   exact ss_cons (sx_set (i := 1) (se_str) S.nd)
      (ss_cons (sx_set (i := 2) (se_bin op_mod s2_mod (mv 0) (se_int)) S.nd)
      (ss_cons (sx_set (i := 3) (se_bm PySem.F.plainAttrs_str PySem.F.slot_str_join PySem.F.type_str_join mt_join sty_str sm_join (se_str) (sa_cons (se_lc (own := [("_law_k", 6)]) S.nd (si_range1 T.b_range (se_int)) (blkOk_by (N := ["_law_cell", "_law_letters", "_law_start", "_law_base", "_law_at", "_law_first", "_law_k"]) (sc := defScope (top 32)) (by decide +kernel)) (tg_name 6) (fun _ _ _ _ _ => pg_name (i := 6) S.nd rfl (Or.inl rfl)) (fun _ _ _ _ _ => st_nil) (fun _ _ _ _ _ => se_ix ix_seq s2_ix (mv 1) (se_bin op_mod s2_mod (se_bin op_addA s2_add (mv 2) (se_bin op_mulA s2_mul (se_int) (mv 6))) (se_int)) (fun _ _ => rfl))) (sa_nil))) S.nd)
      (ss_cons (sx_if (st_cmp (op_eqA hu) s2_eq (se_bin op_mod s2_mod (se_bin op_fdivW s2_fdiv (mv 0) (se_int)) (se_int)) (se_int) (nomark _))
      (ss_cons (sx_set (i := 4) (se_bin op_mod s2_mod (se_bin op_fdivW s2_fdiv (mv 0) (se_int)) (se_int)) S.nd)
      (ss_cons (sx_set (i := 5) (se_bin op_mod s2_mod (se_bin op_fdivW s2_fdiv (mv 0) (se_int)) (se_int)) S.nd)
      (ss_one (sx_ret (se_lc (own := [("_law_k", 6)]) S.nd (si_range1 T.b_range (se_int)) (blkOk_by (N := ["_law_cell", "_law_letters", "_law_start", "_law_base", "_law_at", "_law_first", "_law_k"]) (sc := defScope (top 32)) (by decide +kernel)) (tg_name 6) (fun _ _ _ _ _ => pg_name (i := 6) S.nd rfl (Or.inl rfl)) (fun _ _ _ _ _ => st_nil) (fun _ _ _ _ _ => se_bin op_addA s2_add (se_bin op_addA s2_add (se_slice (mv 3) (sp_none) (sp_some (mv 4))) (se_ix ix_seq s2_ix (mv 1) (se_bin op_mod s2_mod (se_bin op_addA s2_add (mv 5) (mv 6)) (se_int)) (fun _ _ => rfl))) (se_slice (mv 3) (sp_some (se_bin op_addA s2_add (mv 4) (se_int))) (sp_none))))))))
      (ss_nil))
      (ss_cons (sx_if (st_cmp (op_eqA hu) s2_eq (se_bin op_mod s2_mod (se_bin op_fdivW s2_fdiv (mv 0) (se_int)) (se_int)) (se_int) (nomark _))
      (ss_one (sx_ret (se_bin op_addA s2_add (se_lc (own := [("_law_k", 6)]) S.nd (si_range1 T.b_range (se_int)) (blkOk_by (N := ["_law_cell", "_law_letters", "_law_start", "_law_base", "_law_at", "_law_first", "_law_k"]) (sc := defScope (top 32)) (by decide +kernel)) (tg_name 6) (fun _ _ _ _ _ => pg_name (i := 6) S.nd rfl (Or.inl rfl)) (fun _ _ _ _ _ => st_nil) (fun _ _ _ _ _ => se_slice (mv 3) (sp_none) (sp_some (se_bin op_addA s2_add (mv 6) (se_int))))) (se_lst (sa_cons (se_slice (mv 3) (sp_some (se_int)) (sp_none)) (sa_nil))))))
      (ss_nil))
      (ss_one (sx_ret (se_lc (own := [("_law_k", 6)]) S.nd (si_range1 T.b_range (se_int)) (blkOk_by (N := ["_law_cell", "_law_letters", "_law_start", "_law_base", "_law_at", "_law_first", "_law_k"]) (sc := defScope (top 32)) (by decide +kernel)) (tg_name 6) (fun _ _ _ _ _ => pg_name (i := 6) S.nd rfl (Or.inl rfl)) (fun _ _ _ _ _ => st_nil) (fun _ _ _ _ _ => se_ix ix_seq s2_ix (mv 1) (se_bin op_mod s2_mod (se_bin op_addA s2_add (mv 2) (se_bin op_mulA s2_mul (se_int) (mv 6))) (se_int)) (fun _ _ => rfl)))))))))
theorem sc__law_cell_at : FnScope ["_law_script", "_law_k"] ["_law_script", "_law_k"] (defScope (top 28)) := ⟨rfl, rfl, rfl, by decide +kernel, rfl, by decide +kernel, by decide +kernel⟩
theorem sim__law_cell_at (T : Txt K mg) (d : Df K mg "_law_cell_at" (top 28) ["_law_script", "_law_k"]) : Cal P w K mg base "_law_cell_at" 1 (m_cell_at_2c4cb) := by
  exact cal_mk (k := 0) d sc__law_cell_at fun f cdv A outer s H E hr => by
   have tk : Takes (cxOf (L2.CX P w) P w K mg base ["_law_script", "_law_k"] "_law_cell_at" (defScope (top 28)) f cdv A outer s H E) (fun c d _ H' => E c d H') := takes_of rfl rfl rfl rfl
   have hu : (A.deeper (PyProof.Rows.envOfC "_law_cell_at" (defScope (top 28)) s.heap.objs.size f cdv)).units + 65 < cLine := by have := hr.un; omega
   have S := sc__law_cell_at
   exact ss_cons (sx_if (st_cmp op_lt s2_lt (mv 1) (se_callB call_len sn_len (by rfl) T.b_len (by decide +kernel) (sa_cons (mv 0) (sa_nil))) (nomark _))
      (ss_one (sx_ret (se_ix ix_seq s2_ix (mv 0) (mv 1) (fun _ _ => rfl))))
      (ss_nil))
      (ss_one (sx_ret (se_int)))
theorem sc__law_mix : FnScope ["_law_number", "_law_k", "_law_blend"] ["_law_number", "_law_k"] (defScope (top 29)) := ⟨rfl, rfl, rfl, by decide +kernel, rfl, by decide +kernel, by decide +kernel⟩
theorem sim__law_mix (T : Txt K mg) (d : Df K mg "_law_mix" (top 29) ["_law_number", "_law_k"]) : Cal P w K mg base "_law_mix" 1 (m_mix_1b9e1) := by
  exact cal_mk (k := 0) d sc__law_mix fun f cdv A outer s H E hr => by
   have tk : Takes (cxOf (L2.CX P w) P w K mg base ["_law_number", "_law_k", "_law_blend"] "_law_mix" (defScope (top 29)) f cdv A outer s H E) (fun c d _ H' => E c d H') := takes_of rfl rfl rfl rfl
   have hu : (A.deeper (PyProof.Rows.envOfC "_law_mix" (defScope (top 29)) s.heap.objs.size f cdv)).units + 65 < cLine := by have := hr.un; omega
   have S := sc__law_mix
   exact ss_cons (sx_set (i := 2) (se_bin op_mod s2_mod (se_bin op_mulA s2_mul (se_bin op_addA s2_add (se_bin op_addA s2_add (mv 0) (se_int)) (se_bin op_mulA s2_mul (mv 1) (mv 1))) (se_int)) (se_int)) S.nd)
      (ss_one (sx_ret (se_bin op_mod s2_mod (se_bin op_mulA s2_mul (mv 2) (se_bin op_addA s2_add (se_bin op_addA s2_add (se_bin op_fdivW s2_fdiv (mv 2) (se_int)) (se_bin op_mulA s2_mul (se_int) (mv 1))) (se_int))) (se_int))))
theorem sc__law_tape : FnScope ["_law_cell", "_law_many", "_law_found", "_law_rest", "_law_k"] ["_law_cell", "_law_many"] (defScope (top 30)) := ⟨rfl, rfl, rfl, by decide +kernel, rfl, by decide +kernel, by decide +kernel⟩
theorem sim__law_tape (T : Txt K mg) (d : Df K mg "_law_tape" (top 30) ["_law_cell", "_law_many"]) (c__law_mix : Cal P w K mg base "_law_mix" 1 (m_mix_1b9e1)) : Cal P w K mg base "_law_tape" 2 (m_tape_92891) := by
  exact cal_mk (k := 1) d sc__law_tape fun f cdv A outer s H E hr => by
   have tk : Takes (cxOf (L2.CX P w) P w K mg base ["_law_cell", "_law_many", "_law_found", "_law_rest", "_law_k"] "_law_tape" (defScope (top 30)) f cdv A outer s H E) (fun c d _ H' => E c d H') := takes_of rfl rfl rfl rfl
   have hu : (A.deeper (PyProof.Rows.envOfC "_law_tape" (defScope (top 30)) s.heap.objs.size f cdv)).units + 65 < cLine := by have := hr.un; omega
   have S := sc__law_tape
   exact ss_cons (sx_set (i := 2) (se_lst (sa_nil)) S.nd)
      (ss_cons (sx_set (i := 3) (mv 0) S.nd)
      (ss_cons (sx_for (passes_of rfl) (si_range1 T.b_range (mv 1)) (sg_name (i := 4) S.nd)
      (ss_one (sx_if (st_cmp op_ge s2_ge (mv 3) (se_bin op_pow s2_pow (se_int) (se_int)) (nomark _))
      (ss_cons (sx_expr (se_bm PySem.F.plainAttrs_list PySem.F.slot_list_append PySem.F.type_list_append mt_append sty_list sm_append (mv 2) (sa_cons (se_bin op_mod s2_mod (mv 3) (se_int)) (sa_nil))))
      (ss_one (sx_set (i := 3) (se_bin op_fdivW s2_fdiv (mv 3) (se_int)) S.nd)))
      (ss_one (sx_expr (se_bm PySem.F.plainAttrs_list PySem.F.slot_list_append PySem.F.type_list_append mt_append sty_list sm_append (mv 2) (sa_cons (se_callC c__law_mix (hr.mono (by omega)) tk (sa_cons (mv 0) (sa_cons (mv 4) (sa_nil)))) (sa_nil))))))))
      (ss_one (sx_ret (se_revL (mv 2))))))
theorem sc__law_next : FnScope ["_law_tape_here", "_law_many"] ["_law_tape_here", "_law_many"] (defScope (top 31)) := ⟨rfl, rfl, rfl, by decide +kernel, rfl, by decide +kernel, by decide +kernel⟩
theorem sim__law_next (T : Txt K mg) (d : Df K mg "_law_next" (top 31) ["_law_tape_here", "_law_many"]) : Cal P w K mg base "_law_next" 1 (m_next_fea17) := by
  exact cal_mk (k := 0) d sc__law_next fun f cdv A outer s H E hr => by
   have tk : Takes (cxOf (L2.CX P w) P w K mg base ["_law_tape_here", "_law_many"] "_law_next" (defScope (top 31)) f cdv A outer s H E) (fun c d _ H' => E c d H') := takes_of rfl rfl rfl rfl
   have hu : (A.deeper (PyProof.Rows.envOfC "_law_next" (defScope (top 31)) s.heap.objs.size f cdv)).units + 65 < cLine := by have := hr.un; omega
   have S := sc__law_next
   exact ss_cons (sx_if (st_cmp (op_eqA hu) s2_eq (mv 0) (se_lst (sa_nil)) (nomark _))
      (ss_one (sx_ret (se_int)))
      (ss_nil))
      (ss_one (sx_ret (se_bin op_mod s2_mod (se_bm0 PySem.F.plainAttrs_list PySem.F.slot_list_pop PySem.F.type_list_pop mt_pop sty_list sm_pop (mv 0)) (mv 1))))
theorem sc__law_rows : FnScope ["_law_script", "_law_pool", "_law_first", "_law_many", "_law_rows_here", "_law_k", "_law_tape_here", "_law_form", "_law_name", "_law_wide", "_law_spoken", "_law_j"] ["_law_script", "_law_pool"] (defScope (top 34)) := ⟨rfl, rfl, rfl, by decide +kernel, rfl, by decide +kernel, by decide +kernel⟩
theorem sim__law_rows (T : Txt K mg) (d : Df K mg "_law_rows" (top 34) ["_law_script", "_law_pool"]) (c__law_cell_at : Cal P w K mg base "_law_cell_at" 1 (m_cell_at_2c4cb)) (c__law_tape : Cal P w K mg base "_law_tape" 2 (m_tape_92891)) (c__law_next : Cal P w K mg base "_law_next" 1 (m_next_fea17)) : Cal P w K mg base "_law_rows" 3 (m_rows_cc517) := by
  exact cal_mk (k := 2) d sc__law_rows fun f cdv A outer s H E hr => by
   have tk : Takes (cxOf (L2.CX P w) P w K mg base ["_law_script", "_law_pool", "_law_first", "_law_many", "_law_rows_here", "_law_k", "_law_tape_here", "_law_form", "_law_name", "_law_wide", "_law_spoken", "_law_j"] "_law_rows" (defScope (top 34)) f cdv A outer s H E) (fun c d _ H' => E c d H') := takes_of rfl rfl rfl rfl
   have hu : (A.deeper (PyProof.Rows.envOfC "_law_rows" (defScope (top 34)) s.heap.objs.size f cdv)).units + 65 < cLine := by have := hr.un; omega
   have S := sc__law_rows
   exact ss_cons (sx_set (i := 2) (se_callC c__law_cell_at (hr.mono (by omega)) tk (sa_cons (mv 0) (sa_cons (se_int) (sa_nil)))) S.nd)
      (ss_cons (sx_set (i := 3) (se_bin op_mod s2_mod (mv 2) (se_int)) S.nd)
      (ss_cons (sx_set (i := 4) (se_lst (sa_nil)) S.nd)
      (ss_cons (sx_for (passes_of rfl) (si_range1 T.b_range (mv 3)) (sg_name (i := 5) S.nd)
      (ss_cons (sx_set (i := 6) (se_callC c__law_tape (hr.mono (by omega)) tk (sa_cons (se_callC c__law_cell_at (hr.mono (by omega)) tk (sa_cons (mv 0) (sa_cons (se_bin op_addA s2_add (se_int) (mv 5)) (sa_nil)))) (sa_cons (se_int) (sa_nil)))) S.nd)
      (ss_cons (sx_set (i := 7) (se_ix ix_seq s2_ix (mv 1) (se_bin op_mod s2_mod (se_bin op_addA s2_add (se_bin op_fdivW s2_fdiv (mv 2) (se_int)) (mv 5)) (se_int)) (fun _ _ => rfl)) S.nd)
      (ss_cons (sx_if (st_cmp (op_eqA hu) s2_eq (se_callC c__law_next (hr.mono (by omega)) tk (sa_cons (mv 6) (sa_cons (se_int) (sa_nil)))) (se_int) (nomark _))
      (ss_one (sx_set (i := 7) (se_ix ix_seq s2_ix (mv 1) (se_callC c__law_next (hr.mono (by omega)) tk (sa_cons (mv 6) (sa_cons (se_int) (sa_nil)))) (fun _ _ => rfl)) S.nd))
      (ss_nil))
      (ss_cons (sx_set (i := 8) (se_ix ix_seq s2_ix (mv 1) (se_callC c__law_next (hr.mono (by omega)) tk (sa_cons (mv 6) (sa_cons (se_int) (sa_nil)))) (fun _ _ => rfl)) S.nd)
      (ss_cons (sx_set (i := 9) (se_ix ix_seq s2_ix (se_lst (sa_cons (se_callB (call_min2 rfl) sn_min (by rfl) T.b_min (by decide +kernel) (sa_cons (mv 3) (sa_cons (se_int) (sa_nil)))) (sa_cons (se_int) (sa_nil)))) (se_callTy call_int1 sn_int (by rfl) T.b_int (by decide +kernel) (sa_cons (se_cmp (op_eqA hu) s2_eq (se_callC c__law_next (hr.mono (by omega)) tk (sa_cons (mv 6) (sa_cons (se_int) (sa_nil)))) (se_int) (nomark _)) (sa_nil))) (fun _ _ => rfl)) S.nd)
      (ss_cons (sx_set (i := 10) (se_lst (sa_nil)) S.nd)
      (ss_cons (sx_for (passes_of rfl) (si_range1 T.b_range (se_callC c__law_next (hr.mono (by omega)) tk (sa_cons (mv 6) (sa_cons (se_int) (sa_nil))))) (sg_name (i := 11) S.nd)
      (ss_one (sx_expr (se_bm PySem.F.plainAttrs_list PySem.F.slot_list_append PySem.F.type_list_append mt_append sty_list sm_append (mv 10) (sa_cons (se_ix ix_seq s2_ix (mv 1) (se_bin op_mod s2_mod (se_bin op_addA s2_add (se_bin op_fdivW s2_fdiv (mv 2) (se_int)) (se_callC c__law_next (hr.mono (by omega)) tk (sa_cons (mv 6) (sa_cons (mv 9) (sa_nil))))) (se_int)) (fun _ _ => rfl)) (sa_nil))))))
      (ss_one (sx_expr (se_bm PySem.F.plainAttrs_list PySem.F.slot_list_append PySem.F.type_list_append mt_append sty_list sm_append (mv 4) (sa_cons (se_tup (sa_cons (mv 7) (sa_cons (mv 8) (sa_cons (mv 10) (sa_nil))))) (sa_nil)))))))))))))
      (ss_one (sx_ret (mv 4))))))
theorem sc__law_due : FnScope ["_law_rows_here", "_law_known", "_law_k", "_law_form", "_law_row"] ["_law_rows_here"] (defScope (top 35)) := ⟨rfl, rfl, rfl, by decide +kernel, rfl, by decide +kernel, by decide +kernel⟩
theorem sim__law_due (T : Txt K mg) (d : Df K mg "_law_due" (top 35) ["_law_rows_here"]) : Cal P w K mg base "_law_due" 1 (m_due_40573) := by
  exact cal_mk (k := 0) d sc__law_due fun f cdv A outer s H E hr => by
   have tk : Takes (cxOf (L2.CX P w) P w K mg base ["_law_rows_here", "_law_known", "_law_k", "_law_form", "_law_row"] "_law_due" (defScope (top 35)) f cdv A outer s H E) (fun c d _ H' => E c d H') := takes_of rfl rfl rfl rfl
   have hu : (A.deeper (PyProof.Rows.envOfC "_law_due" (defScope (top 35)) s.heap.objs.size f cdv)).units + 65 < cLine := by have := hr.un; omega
   have S := sc__law_due
   exact ss_cons (sx_if (st_cmp (op_eqA hu) s2_eq (se_callB call_len sn_len (by rfl) T.b_len (by decide +kernel) (sa_cons (mv 0) (sa_nil))) (se_int) (nomark _))
      (ss_one (sx_ret (se_int)))
      (ss_nil))
      (ss_cons (sx_if (st_cmp op_gt s2_gt (se_callB call_len sn_len (by rfl) T.b_len (by decide +kernel) (sa_cons (mv 0) (sa_nil))) (se_int) (nomark _))
      (ss_one (sx_ret (se_int)))
      (ss_nil))
      (ss_cons ((by first | exact sx_setLc (own := [("_law_row", 4)]) (i := 1) S.nd (si_iter (mv 0)) (blkOk_by (N := ["_law_rows_here", "_law_known", "_law_k", "_law_form", "_law_row"]) (sc := defScope (top 35)) (by decide +kernel)) (tg_name 4) (fun _ _ _ _ _ => pg_name (i := 4) S.nd rfl (Or.inl rfl)) (fun _ _ _ _ _ => st_nil) (fun _ _ _ _ _ => se_ix ix_seq s2_ix (mv 4) (se_int) (fun _ _ => rfl)) | exact sx_set (i := 1) (se_lc (own := [("_law_row", 4)]) S.nd (si_iter (mv 0)) (blkOk_by (N := ["_law_rows_here", "_law_known", "_law_k", "_law_form", "_law_row"]) (sc := defScope (top 35)) (by decide +kernel)) (tg_name 4) (fun _ _ _ _ _ => pg_name (i := 4) S.nd rfl (Or.inl rfl)) (fun _ _ _ _ _ => st_nil) (fun _ _ _ _ _ => se_ix ix_seq s2_ix (mv 4) (se_int) (fun _ _ => rfl))) S.nd))
      (ss_cons (sx_for (passes_of rfl) (si_range1 T.b_range (se_callB call_len sn_len (by rfl) T.b_len (by decide +kernel) (sa_cons (mv 0) (sa_nil)))) (sg_name (i := 2) S.nd)
      (ss_one (sx_if (st_cmp (op_inA hu) s2_in (se_ix ix_seq s2_ix (mv 1) (mv 2) (fun _ _ => rfl)) (se_slice (mv 1) (sp_none) (sp_some (mv 2))) rfl)
      (ss_one (sx_ret (mv 2)))
      (ss_nil))))
      (ss_cons (sx_for (passes_of rfl) (si_range1 T.b_range (se_callB call_len sn_len (by rfl) T.b_len (by decide +kernel) (sa_cons (mv 0) (sa_nil)))) (sg_name (i := 2) S.nd)
      (ss_one (sx_for (passes_of rfl) (si_iter (se_ix ix_seq s2_ix (se_ix ix_seq s2_ix (mv 0) (mv 2) (fun _ _ => rfl)) (se_int) (fun _ _ => rfl))) (sg_name (i := 3) S.nd)
      (ss_one (sx_if (st_cmp (op_notInA hu) s2_notIn (mv 3) (mv 1) rfl)
      (ss_one (sx_ret (mv 2)))
      (ss_nil))))))
      (ss_one (sx_ret (se_non)))))))
theorem sc_Chain___init__ : FnScope ["self", "parts"] ["self", "parts"] (defScope (inner (top 13) 0)) := ⟨rfl, rfl, rfl, by decide +kernel, rfl, by decide +kernel, by decide +kernel⟩
theorem sim_Chain___init__ (T : Txt K mg) (d : Di K mg "Chain" "Chain.__init__" (inner (top 13) 0) ["self", "parts"]) : MkOf P w K mg base "Chain" 1 (m_Chain___init___9e3a3) := by
  exact mkof_mk (k := 0) d sc_Chain___init__ fun f cdv A outer s H E hr => by
   have tk : Takes (cxOf (L2.CX P w) P w K mg base ["self", "parts"] "Chain.__init__" (defScope (inner (top 13) 0)) f cdv A outer s H E) (fun c d _ H' => E c d H') := takes_of rfl rfl rfl rfl
   have hu : (A.deeper (PyProof.Rows.envOfC "Chain.__init__" (defScope (inner (top 13) 0)) s.heap.objs.size f cdv)).units + 65 < cLine := by have := hr.un; omega
   have S := sc_Chain___init__
   exact ss_one (sx_setFld T.ct_parts (mv 0) (se_callTy call_tupF sn_tuple (by rfl) T.b_tuple (by decide +kernel) (sa_cons (mv 1) (sa_nil))))
theorem sc_chain : FnScope ["parts", "opened", "part"] ["parts"] (defScope (top 23)) := ⟨rfl, rfl, rfl, by decide +kernel, rfl, by decide +kernel, by decide +kernel⟩
theorem sim_chain (T : Txt K mg) (d : Df K mg "chain" (top 23) ["parts"]) (c_Chain___init__ : MkOf P w K mg base "Chain" 1 (m_Chain___init___9e3a3)) : Cal P w K mg base "chain" 3 (m_chain_974c3) := by
  exact cal_mk (k := 2) d sc_chain fun f cdv A outer s H E hr => by
   have tk : Takes (cxOf (L2.CX P w) P w K mg base ["parts", "opened", "part"] "chain" (defScope (top 23)) f cdv A outer s H E) (fun c d _ H' => E c d H') := takes_of rfl rfl rfl rfl
   have hu : (A.deeper (PyProof.Rows.envOfC "chain" (defScope (top 23)) s.heap.objs.size f cdv)).units + 65 < cLine := by have := hr.un; omega
   have S := sc_chain
   exact ss_cons (sx_set (i := 1) (se_lst (sa_nil)) S.nd)
      (ss_cons (sx_for (passes_of rfl) (si_iter (mv 0)) (sg_name (i := 2) S.nd)
      (ss_one (sx_if (st_val (se_isC T.ic_Chain (mv 2) T.b_isinstance))
      (ss_one (sx_expr (se_bm PySem.F.plainAttrs_list PySem.F.slot_list_extend PySem.F.type_list_extend mt_extend sty_list sm_extend (mv 1) (sa_cons (se_callTy call_list_of sn_list (by rfl) T.b_list (by decide +kernel) (sa_cons (se_fld T.ct_parts (mv 2)) (sa_nil))) (sa_nil)))))
      (ss_one (sx_expr (se_bm PySem.F.plainAttrs_list PySem.F.slot_list_append PySem.F.type_list_append mt_append sty_list sm_append (mv 1) (sa_cons (mv 2) (sa_nil))))))))
      (ss_cons (sx_if (st_cmp (op_eqA hu) s2_eq (se_callB call_len sn_len (by rfl) T.b_len (by decide +kernel) (sa_cons (mv 1) (sa_nil))) (se_int) (nomark _))
      (ss_one (sx_ret (se_ix ix_seq s2_ix (mv 1) (se_int) (fun _ _ => rfl))))
      (ss_nil))
      (ss_one (sx_ret (se_new c_Chain___init__ (hr.mono (by omega)) tk (sa_cons (mv 1) (sa_nil)))))))
theorem sc_One___init__ : FnScope ["self", "form"] ["self", "form"] (defScope (inner (top 12) 0)) := ⟨rfl, rfl, rfl, by decide +kernel, rfl, by decide +kernel, by decide +kernel⟩
theorem sim_One___init__ (T : Txt K mg) (d : Di K mg "One" "One.__init__" (inner (top 12) 0) ["self", "form"]) : MkOf P w K mg base "One" 1 (m_One___init___d241d) := by
  exact mkof_mk (k := 0) d sc_One___init__ fun f cdv A outer s H E hr => by
   have tk : Takes (cxOf (L2.CX P w) P w K mg base ["self", "form"] "One.__init__" (defScope (inner (top 12) 0)) f cdv A outer s H E) (fun c d _ H' => E c d H') := takes_of rfl rfl rfl rfl
   have hu : (A.deeper (PyProof.Rows.envOfC "One.__init__" (defScope (inner (top 12) 0)) s.heap.objs.size f cdv)).units + 65 < cLine := by have := hr.un; omega
   have S := sc_One___init__
   exact ss_one (sx_setFld T.ct_form (mv 0) (mv 1))
theorem sc_one : FnScope ["form"] ["form"] (defScope (top 22)) := ⟨rfl, rfl, rfl, by decide +kernel, rfl, by decide +kernel, by decide +kernel⟩
theorem sim_one (T : Txt K mg) (d : Df K mg "one" (top 22) ["form"]) (c_One___init__ : MkOf P w K mg base "One" 1 (m_One___init___d241d)) : Cal P w K mg base "one" 3 (m_one_dbedc) := by
  exact cal_mk (k := 2) d sc_one fun f cdv A outer s H E hr => by
   have tk : Takes (cxOf (L2.CX P w) P w K mg base ["form"] "one" (defScope (top 22)) f cdv A outer s H E) (fun c d _ H' => E c d H') := takes_of rfl rfl rfl rfl
   have hu : (A.deeper (PyProof.Rows.envOfC "one" (defScope (top 22)) s.heap.objs.size f cdv)).units + 65 < cLine := by have := hr.un; omega
   have S := sc_one
   exact ss_one (sx_ret (se_new c_One___init__ (hr.mono (by omega)) tk (sa_cons (mv 0) (sa_nil))))
theorem sc_penned : FnScope ["told", "word", "part"] ["told"] (defScope (top 19)) := ⟨rfl, rfl, rfl, by decide +kernel, rfl, by decide +kernel, by decide +kernel⟩
theorem sim_penned (T : Txt K mg) (d : Df K mg "penned" (top 19) ["told"]) : ∀ n, Cal P w K mg base "penned" (n + 1) (m_penned_48f09 n)
 | 0 => cal_none d (fun _ _ => rfl)
 | n + 1 => by
  have c_self := sim_penned T d n
  have e : n + 1 + 1 = (n + 1) + 1 := by omega
  rw [e]
  exact cal_mk (k := n + 1) d sc_penned fun f cdv A outer s H E hr => by
   have tk : Takes (cxOf (L2.CX P w) P w K mg base ["told", "word", "part"] "penned" (defScope (top 19)) f cdv A outer s H E) (fun c d _ H' => E c d H') := takes_of rfl rfl rfl rfl
   have hu : (A.deeper (PyProof.Rows.envOfC "penned" (defScope (top 19)) s.heap.objs.size f cdv)).units + 65 < cLine := by have := hr.un; omega
   have S := sc_penned
   exact ss_cons (sx_if (st_cmp (op_eqA hu) s2_eq (se_ix ix_seq s2_ix (mv 0) (se_int) (fun _ _ => rfl)) (se_str) (nomark _))
      (ss_one (sx_ret (se_ix ix_seq s2_ix (mv 0) (se_int) (fun _ _ => rfl))))
      (ss_nil))
      (ss_cons (sx_if (st_cmp (op_eqA hu) s2_eq (se_ix ix_seq s2_ix (mv 0) (se_int) (fun _ _ => rfl)) (se_str) (nomark _))
      (ss_one (sx_ret (se_bin op_addA s2_add (se_bin op_addA s2_add (se_bin op_addA s2_add (se_bin op_addA s2_add (se_bin op_addA s2_add (se_bin op_addA s2_add (se_str) (se_callTy call_str_int sn_str (by rfl) T.b_str (by decide +kernel) (sa_cons (se_ix ix_seq s2_ix (mv 0) (se_int) (fun _ _ => rfl)) (sa_nil)))) (se_str)) (se_callTy call_str_int sn_str (by rfl) T.b_str (by decide +kernel) (sa_cons (se_ix ix_seq s2_ix (mv 0) (se_int) (fun _ _ => rfl)) (sa_nil)))) (se_str)) (se_callC c_self (hr.mono (by omega)) tk (sa_cons (se_ix ix_seq s2_ix (mv 0) (se_int) (fun _ _ => rfl)) (sa_nil)))) (se_str))))
      (ss_nil))
      (ss_cons (sx_set (i := 1) (se_dix hu (se_dictC [((Str.ofString "chain"), (Str.ofString "C")), ((Str.ofString "choice"), (Str.ofString "O")), ((Str.ofString "mixed"), (Str.ofString "M"))] (pps_cons se_str se_str (pps_cons se_str se_str (pps_cons se_str se_str (pps_nil)))) (by decide)) (se_ix ix_seq s2_ix (mv 0) (se_int) (fun _ _ => rfl))) S.nd)
      (ss_one (sx_ret (se_bin op_addA s2_add (se_bin op_addA s2_add (se_bin op_addA s2_add (mv 1) (se_str)) (se_bm PySem.F.plainAttrs_str PySem.F.slot_str_join PySem.F.type_str_join mt_join sty_str sm_join (se_str) (sa_cons (se_lc (own := [("part", 2)]) S.nd (si_iter (se_ix ix_seq s2_ix (mv 0) (se_int) (fun _ _ => rfl))) (blkOk_by (N := ["told", "word", "part"]) (sc := defScope (top 19)) (by decide +kernel)) (tg_name 2) (fun _ _ _ _ _ => pg_name (i := 2) S.nd rfl (Or.inl rfl)) (fun _ _ _ _ _ => st_nil) (fun _ _ _ _ _ => se_callC c_self (hr.mono (by omega)) takes0 (sa_cons (mv 2) (sa_nil)))) (sa_nil)))) (se_str))))))
theorem sc_One_told : FnScope ["self"] ["self"] (defScope (inner (top 12) 1)) := ⟨rfl, rfl, rfl, by decide +kernel, rfl, by decide +kernel, by decide +kernel⟩
theorem sim_One_told (T : Txt K mg) (d : Dm K "One" "told" "One.told" (inner (top 12) 1) ["self"]) : MtOf P w K mg base "One" "told" 1 (m_One_told_38426) := by
  exact mtof_mk (k := 0) d sc_One_told fun f cdv A outer s H E hr => by
   have tk : Takes (cxOf (L2.CX P w) P w K mg base ["self"] "One.told" (defScope (inner (top 12) 1)) f cdv A outer s H E) (fun c d _ H' => E c d H') := takes_of rfl rfl rfl rfl
   have hu : (A.deeper (PyProof.Rows.envOfC "One.told" (defScope (inner (top 12) 1)) s.heap.objs.size f cdv)).units + 65 < cLine := by have := hr.un; omega
   have S := sc_One_told
   exact ss_one (sx_ret (se_tup (sa_cons (se_str) (sa_cons (se_fld T.ct_form (mv 0)) (sa_nil)))))
theorem sc_Chain_told : FnScope ["self"] ["self"] (defScope (inner (top 13) 1)) := ⟨rfl, rfl, rfl, by decide +kernel, rfl, by decide +kernel, by decide +kernel⟩
theorem sim_Chain_told (T : Txt K mg) (d : Dm K "Chain" "told" "Chain.told" (inner (top 13) 1) ["self"]) {k : Nat} {S : Nat → List D → MH → R D} (hk : 0 ≤ k) (c_tolds : Cal P w K mg base "tolds" k (S 4)) : MtOf P w K mg base "Chain" "told" (k + 1) (m_Chain_told_5991d S) := by
  exact mtof_mk (k := k) d sc_Chain_told fun f cdv A outer s H E hr => by
   have tk : Takes (cxOf (L2.CX P w) P w K mg base ["self"] "Chain.told" (defScope (inner (top 13) 1)) f cdv A outer s H E) (fun c d _ H' => E c d H') := takes_of rfl rfl rfl rfl
   have hu : (A.deeper (PyProof.Rows.envOfC "Chain.told" (defScope (inner (top 13) 1)) s.heap.objs.size f cdv)).units + 65 < cLine := by have := hr.un; omega
   have SC := sc_Chain_told
   exact ss_one (sx_ret (se_tup (sa_cons (se_str) (sa_cons (se_callC c_tolds (hr.mono (by omega)) tk (sa_cons (se_fld T.ct_parts (mv 0)) (sa_nil))) (sa_nil)))))
theorem sc_Choice_told : FnScope ["self"] ["self"] (defScope (inner (top 14) 1)) := ⟨rfl, rfl, rfl, by decide +kernel, rfl, by decide +kernel, by decide +kernel⟩
theorem sim_Choice_told (T : Txt K mg) (d : Dm K "Choice" "told" "Choice.told" (inner (top 14) 1) ["self"]) {k : Nat} {S : Nat → List D → MH → R D} (hk : 0 ≤ k) (c_tolds : Cal P w K mg base "tolds" k (S 4)) : MtOf P w K mg base "Choice" "told" (k + 1) (m_Choice_told_15b0d S) := by
  exact mtof_mk (k := k) d sc_Choice_told fun f cdv A outer s H E hr => by
   have tk : Takes (cxOf (L2.CX P w) P w K mg base ["self"] "Choice.told" (defScope (inner (top 14) 1)) f cdv A outer s H E) (fun c d _ H' => E c d H') := takes_of rfl rfl rfl rfl
   have hu : (A.deeper (PyProof.Rows.envOfC "Choice.told" (defScope (inner (top 14) 1)) s.heap.objs.size f cdv)).units + 65 < cLine := by have := hr.un; omega
   have SC := sc_Choice_told
   exact ss_one (sx_ret (se_tup (sa_cons (se_str) (sa_cons (se_callC c_tolds (hr.mono (by omega)) tk (sa_cons (se_fld T.ct_parts (mv 0)) (sa_nil))) (sa_nil)))))
theorem sc_Mixed_told : FnScope ["self"] ["self"] (defScope (inner (top 16) 1)) := ⟨rfl, rfl, rfl, by decide +kernel, rfl, by decide +kernel, by decide +kernel⟩
theorem sim_Mixed_told (T : Txt K mg) (d : Dm K "Mixed" "told" "Mixed.told" (inner (top 16) 1) ["self"]) {k : Nat} {S : Nat → List D → MH → R D} (hk : 0 ≤ k) (c_tolds : Cal P w K mg base "tolds" k (S 4)) : MtOf P w K mg base "Mixed" "told" (k + 1) (m_Mixed_told_4747f S) := by
  exact mtof_mk (k := k) d sc_Mixed_told fun f cdv A outer s H E hr => by
   have tk : Takes (cxOf (L2.CX P w) P w K mg base ["self"] "Mixed.told" (defScope (inner (top 16) 1)) f cdv A outer s H E) (fun c d _ H' => E c d H') := takes_of rfl rfl rfl rfl
   have hu : (A.deeper (PyProof.Rows.envOfC "Mixed.told" (defScope (inner (top 16) 1)) s.heap.objs.size f cdv)).units + 65 < cLine := by have := hr.un; omega
   have SC := sc_Mixed_told
   exact ss_one (sx_ret (se_tup (sa_cons (se_str) (sa_cons (se_callC c_tolds (hr.mono (by omega)) tk (sa_cons (se_fld T.ct_parts (mv 0)) (sa_nil))) (sa_nil)))))
theorem sc_Times_told : FnScope ["self", "high"] ["self"] (defScope (inner (top 15) 1)) := ⟨rfl, rfl, rfl, by decide +kernel, rfl, by decide +kernel, by decide +kernel⟩
theorem sim_Times_told (T : Txt K mg) (d : Dm K "Times" "told" "Times.told" (inner (top 15) 1) ["self"]) (c_One_told : MtOf P w K mg base "One" "told" 1 (m_One_told_38426)) {k : Nat} {S : Nat → List D → MH → R D} (hk : 1 ≤ k) (c_Chain_told : MtOf P w K mg base "Chain" "told" k (S 0)) (c_Choice_told : MtOf P w K mg base "Choice" "told" k (S 1)) (c_Times_told : MtOf P w K mg base "Times" "told" k (S 3)) (c_Mixed_told : MtOf P w K mg base "Mixed" "told" k (S 2)) : MtOf P w K mg base "Times" "told" (k + 1) (m_Times_told_c3621 S) := by
  exact mtof_mk (k := k) d sc_Times_told fun f cdv A outer s H E hr => by
   have tk : Takes (cxOf (L2.CX P w) P w K mg base ["self", "high"] "Times.told" (defScope (inner (top 15) 1)) f cdv A outer s H E) (fun c d _ H' => E c d H') := takes_of rfl rfl rfl rfl
   have hu : (A.deeper (PyProof.Rows.envOfC "Times.told" (defScope (inner (top 15) 1)) s.heap.objs.size f cdv)).units + 65 < cLine := by have := hr.un; omega
   have SC := sc_Times_told
   exact ss_cons (sx_set (i := 1) (se_un un_neg s1_neg (se_int)) SC.nd)
      (ss_cons (sx_if (st_cmp op_notN s2_notN (se_fld T.ct_high (mv 0)) (se_non) (nomark _))
      (ss_one (sx_set (i := 1) (se_fld T.ct_high (mv 0)) SC.nd))
      (ss_nil))
      (ss_one (sx_ret (se_tup (sa_cons (se_str) (sa_cons (se_meth0 (k := k) (mt_cons (MtOf.mono c_One_told (by omega)) (mt_cons (MtOf.mono c_Chain_told (by omega)) (mt_cons (MtOf.mono c_Choice_told (by omega)) (mt_cons (MtOf.mono c_Times_told (by omega)) (mt_cons (MtOf.mono c_Mixed_told (by omega)) (mt_nil)))))) (hr.mono (by omega)) tk (se_fld T.ct_part (mv 0))) (sa_cons (se_fld T.ct_low (mv 0)) (sa_cons (mv 1) (sa_nil)))))))))
theorem sc_tolds : FnScope ["parts", "part"] ["parts"] (defScope (top 17)) := ⟨rfl, rfl, rfl, by decide +kernel, rfl, by decide +kernel, by decide +kernel⟩
theorem sim_tolds (T : Txt K mg) (d : Df K mg "tolds" (top 17) ["parts"]) (c_One_told : MtOf P w K mg base "One" "told" 1 (m_One_told_38426)) {k : Nat} {S : Nat → List D → MH → R D} (hk : 1 ≤ k) (c_Chain_told : MtOf P w K mg base "Chain" "told" k (S 0)) (c_Choice_told : MtOf P w K mg base "Choice" "told" k (S 1)) (c_Times_told : MtOf P w K mg base "Times" "told" k (S 3)) (c_Mixed_told : MtOf P w K mg base "Mixed" "told" k (S 2)) : Cal P w K mg base "tolds" (k + 1) (m_tolds_6615b S) := by
  exact cal_mk (k := k) d sc_tolds fun f cdv A outer s H E hr => by
   have tk : Takes (cxOf (L2.CX P w) P w K mg base ["parts", "part"] "tolds" (defScope (top 17)) f cdv A outer s H E) (fun c d _ H' => E c d H') := takes_of rfl rfl rfl rfl
   have hu : (A.deeper (PyProof.Rows.envOfC "tolds" (defScope (top 17)) s.heap.objs.size f cdv)).units + 65 < cLine := by have := hr.un; omega
   have SC := sc_tolds
   exact ss_one (sx_ret (se_callTy call_tupF sn_tuple (by rfl) T.b_tuple (by decide +kernel) (sa_cons (se_lc (own := [("part", 1)]) SC.nd (si_iter (mv 0)) (blkOk_by (N := ["parts", "part"]) (sc := defScope (top 17)) (by decide +kernel)) (tg_name 1) (fun _ _ _ _ _ => pg_name (i := 1) SC.nd rfl (Or.inl rfl)) (fun _ _ _ _ _ => st_nil) (fun _ _ _ _ _ => se_meth0 (k := k) (mt_cons (MtOf.mono c_One_told (by omega)) (mt_cons (MtOf.mono c_Chain_told (by omega)) (mt_cons (MtOf.mono c_Choice_told (by omega)) (mt_cons (MtOf.mono c_Times_told (by omega)) (mt_cons (MtOf.mono c_Mixed_told (by omega)) (mt_nil)))))) (hr.mono (by omega)) takes0 (mv 1))) (sa_nil))))
theorem simg_Chain_told (T : Txt K mg) (d_Chain_told : Dm K "Chain" "told" "Chain.told" (inner (top 13) 1) ["self"]) (d_Choice_told : Dm K "Choice" "told" "Choice.told" (inner (top 14) 1) ["self"]) (d_Mixed_told : Dm K "Mixed" "told" "Mixed.told" (inner (top 16) 1) ["self"]) (d_Times_told : Dm K "Times" "told" "Times.told" (inner (top 15) 1) ["self"]) (d_tolds : Df K mg "tolds" (top 17) ["parts"]) (c_One_told : MtOf P w K mg base "One" "told" 1 (m_One_told_38426)) : ∀ n, (MtOf P w K mg base "Chain" "told" (n + 1) (m_scc_Chain_told_612a9 n 0)) ∧ (MtOf P w K mg base "Choice" "told" (n + 1) (m_scc_Chain_told_612a9 n 1)) ∧ (MtOf P w K mg base "Mixed" "told" (n + 1) (m_scc_Chain_told_612a9 n 2)) ∧ (MtOf P w K mg base "Times" "told" (n + 1) (m_scc_Chain_told_612a9 n 3)) ∧ (Cal P w K mg base "tolds" (n + 1) (m_scc_Chain_told_612a9 n 4))
 | 0 => ⟨mtof_none d_Chain_told (fun _ _ => rfl), mtof_none d_Choice_told (fun _ _ => rfl), mtof_none d_Mixed_told (fun _ _ => rfl), mtof_none d_Times_told (fun _ _ => rfl), cal_none d_tolds (fun _ _ => rfl)⟩
 | n + 1 => by
  obtain ⟨i_Chain_told, i_Choice_told, i_Mixed_told, i_Times_told, i_tolds⟩ := simg_Chain_told T d_Chain_told d_Choice_told d_Mixed_told d_Times_told d_tolds c_One_told n
  have e : n + 1 + 1 = (n + 1) + 1 := by omega
  rw [e]
  exact ⟨sim_Chain_told T d_Chain_told (by omega) i_tolds, sim_Choice_told T d_Choice_told (by omega) i_tolds, sim_Mixed_told T d_Mixed_told (by omega) i_tolds, sim_Times_told T d_Times_told c_One_told (by omega) i_Chain_told i_Choice_told i_Times_told i_Mixed_told, sim_tolds T d_tolds c_One_told (by omega) i_Chain_told i_Choice_told i_Times_told i_Mixed_told⟩
theorem sc_each_once : FnScope ["parts", "known", "kept", "part", "told"] ["parts"] (defScope (top 20)) := ⟨rfl, rfl, rfl, by decide +kernel, rfl, by decide +kernel, by decide +kernel⟩
theorem sim_each_once (T : Txt K mg) (d : Df K mg "each_once" (top 20) ["parts"]) (c_penned : Cal P w K mg base "penned" 101 (m_penned_48f09 100)) (c_One_told : MtOf P w K mg base "One" "told" 1 (m_One_told_38426)) (c_Chain_told : MtOf P w K mg base "Chain" "told" 41 (m_scc_Chain_told_612a9 40 0)) (c_Choice_told : MtOf P w K mg base "Choice" "told" 41 (m_scc_Chain_told_612a9 40 1)) (c_Times_told : MtOf P w K mg base "Times" "told" 41 (m_scc_Chain_told_612a9 40 3)) (c_Mixed_told : MtOf P w K mg base "Mixed" "told" 41 (m_scc_Chain_told_612a9 40 2)) : Cal P w K mg base "each_once" 102 (m_each_once_675d0) := by
  exact cal_mk (k := 101) d sc_each_once fun f cdv A outer s H E hr => by
   have tk : Takes (cxOf (L2.CX P w) P w K mg base ["parts", "known", "kept", "part", "told"] "each_once" (defScope (top 20)) f cdv A outer s H E) (fun c d _ H' => E c d H') := takes_of rfl rfl rfl rfl
   have hu : (A.deeper (PyProof.Rows.envOfC "each_once" (defScope (top 20)) s.heap.objs.size f cdv)).units + 65 < cLine := by have := hr.un; omega
   have S := sc_each_once
   exact ss_cons (sx_set (i := 1) (se_dict0) S.nd)
      (ss_cons (sx_set (i := 2) (se_lst (sa_nil)) S.nd)
      (ss_cons (sx_for (passes_of rfl) (si_iter (mv 0)) (sg_name (i := 3) S.nd)
      (ss_cons (sx_set (i := 4) (se_callC c_penned (hr.mono (by omega)) tk (sa_cons (se_meth0 (k := 101) (mt_cons (MtOf.mono c_One_told (by omega)) (mt_cons (MtOf.mono c_Chain_told (by omega)) (mt_cons (MtOf.mono c_Choice_told (by omega)) (mt_cons (MtOf.mono c_Times_told (by omega)) (mt_cons (MtOf.mono c_Mixed_told (by omega)) (mt_nil)))))) (hr.mono (by omega)) tk (mv 3)) (sa_nil))) S.nd)
      (ss_one (sx_if (st_cmp (op_dNotIn hu) s2_dNotIn (mv 4) (mv 1) rfl)
      (ss_cons (sx_dset hu (mv 1) (mv 4) (se_bl))
      (ss_one (sx_expr (se_bm PySem.F.plainAttrs_list PySem.F.slot_list_append PySem.F.type_list_append mt_append sty_list sm_append (mv 2) (sa_cons (mv 3) (sa_nil))))))
      (ss_nil)))))
      (ss_one (sx_ret (mv 2)))))
theorem sc_Choice___init__ : FnScope ["self", "parts"] ["self", "parts"] (defScope (inner (top 14) 0)) := ⟨rfl, rfl, rfl, by decide +kernel, rfl, by decide +kernel, by decide +kernel⟩
theorem sim_Choice___init__ (T : Txt K mg) (d : Di K mg "Choice" "Choice.__init__" (inner (top 14) 0) ["self", "parts"]) : MkOf P w K mg base "Choice" 1 (m_Choice___init___2c9b4) := by
  exact mkof_mk (k := 0) d sc_Choice___init__ fun f cdv A outer s H E hr => by
   have tk : Takes (cxOf (L2.CX P w) P w K mg base ["self", "parts"] "Choice.__init__" (defScope (inner (top 14) 0)) f cdv A outer s H E) (fun c d _ H' => E c d H') := takes_of rfl rfl rfl rfl
   have hu : (A.deeper (PyProof.Rows.envOfC "Choice.__init__" (defScope (inner (top 14) 0)) s.heap.objs.size f cdv)).units + 65 < cLine := by have := hr.un; omega
   have S := sc_Choice___init__
   exact ss_one (sx_setFld T.ct_parts (mv 0) (se_callTy call_tupF sn_tuple (by rfl) T.b_tuple (by decide +kernel) (sa_cons (mv 1) (sa_nil))))
theorem sc_choice : FnScope ["parts", "opened", "part"] ["parts"] (defScope (top 24)) := ⟨rfl, rfl, rfl, by decide +kernel, rfl, by decide +kernel, by decide +kernel⟩
theorem sim_choice (T : Txt K mg) (d : Df K mg "choice" (top 24) ["parts"]) (c_each_once : Cal P w K mg base "each_once" 102 (m_each_once_675d0)) (c_Choice___init__ : MkOf P w K mg base "Choice" 1 (m_Choice___init___2c9b4)) : Cal P w K mg base "choice" 103 (m_choice_458e9) := by
  exact cal_mk (k := 102) d sc_choice fun f cdv A outer s H E hr => by
   have tk : Takes (cxOf (L2.CX P w) P w K mg base ["parts", "opened", "part"] "choice" (defScope (top 24)) f cdv A outer s H E) (fun c d _ H' => E c d H') := takes_of rfl rfl rfl rfl
   have hu : (A.deeper (PyProof.Rows.envOfC "choice" (defScope (top 24)) s.heap.objs.size f cdv)).units + 65 < cLine := by have := hr.un; omega
   have S := sc_choice
   exact ss_cons (sx_set (i := 1) (se_lst (sa_nil)) S.nd)
      (ss_cons (sx_for (passes_of rfl) (si_iter (mv 0)) (sg_name (i := 2) S.nd)
      (ss_one (sx_if (st_val (se_isC T.ic_Choice (mv 2) T.b_isinstance))
      (ss_one (sx_expr (se_bm PySem.F.plainAttrs_list PySem.F.slot_list_extend PySem.F.type_list_extend mt_extend sty_list sm_extend (mv 1) (sa_cons (se_callTy call_list_of sn_list (by rfl) T.b_list (by decide +kernel) (sa_cons (se_fld T.ct_parts (mv 2)) (sa_nil))) (sa_nil)))))
      (ss_one (sx_expr (se_bm PySem.F.plainAttrs_list PySem.F.slot_list_append PySem.F.type_list_append mt_append sty_list sm_append (mv 1) (sa_cons (mv 2) (sa_nil))))))))
      (ss_cons (sx_set (i := 1) (se_callC c_each_once (hr.mono (by omega)) tk (sa_cons (mv 1) (sa_nil))) S.nd)
      (ss_cons (sx_if (st_cmp (op_eqA hu) s2_eq (se_callB call_len sn_len (by rfl) T.b_len (by decide +kernel) (sa_cons (mv 1) (sa_nil))) (se_int) (nomark _))
      (ss_one (sx_ret (se_ix ix_seq s2_ix (mv 1) (se_int) (fun _ _ => rfl))))
      (ss_nil))
      (ss_one (sx_ret (se_new c_Choice___init__ (hr.mono (by omega)) tk (sa_cons (mv 1) (sa_nil))))))))
theorem sc_Times___init__ : FnScope ["self", "part", "low", "high"] ["self", "part", "low", "high"] (defScope (inner (top 15) 0)) := ⟨rfl, rfl, rfl, by decide +kernel, rfl, by decide +kernel, by decide +kernel⟩
theorem sim_Times___init__ (T : Txt K mg) (d : Di K mg "Times" "Times.__init__" (inner (top 15) 0) ["self", "part", "low", "high"]) : MkOf P w K mg base "Times" 1 (m_Times___init___6a51e) := by
  exact mkof_mk (k := 0) d sc_Times___init__ fun f cdv A outer s H E hr => by
   have tk : Takes (cxOf (L2.CX P w) P w K mg base ["self", "part", "low", "high"] "Times.__init__" (defScope (inner (top 15) 0)) f cdv A outer s H E) (fun c d _ H' => E c d H') := takes_of rfl rfl rfl rfl
   have hu : (A.deeper (PyProof.Rows.envOfC "Times.__init__" (defScope (inner (top 15) 0)) s.heap.objs.size f cdv)).units + 65 < cLine := by have := hr.un; omega
   have S := sc_Times___init__
   exact ss_cons (sx_setFld T.ct_part (mv 0) (mv 1))
      (ss_cons (sx_setFld T.ct_low (mv 0) (mv 2))
      (ss_one (sx_setFld T.ct_high (mv 0) (mv 3))))
theorem sc_is_empty : FnScope ["part"] ["part"] (defScope (top 21)) := ⟨rfl, rfl, rfl, by decide +kernel, rfl, by decide +kernel, by decide +kernel⟩
theorem sim_is_empty (T : Txt K mg) (d : Df K mg "is_empty" (top 21) ["part"]) : Cal P w K mg base "is_empty" 1 (m_is_empty_d2ea2) := by
  exact cal_mk (k := 0) d sc_is_empty fun f cdv A outer s H E hr => by
   have tk : Takes (cxOf (L2.CX P w) P w K mg base ["part"] "is_empty" (defScope (top 21)) f cdv A outer s H E) (fun c d _ H' => E c d H') := takes_of rfl rfl rfl rfl
   have hu : (A.deeper (PyProof.Rows.envOfC "is_empty" (defScope (top 21)) s.heap.objs.size f cdv)).units + 65 < cLine := by have := hr.un; omega
   have S := sc_is_empty
   exact ss_one (sx_ret (se_and (se_isC T.ic_Chain (mv 0) T.b_isinstance) (se_one (se_cmp (op_eqA hu) s2_eq (se_callB call_len sn_len (by rfl) T.b_len (by decide +kernel) (sa_cons (se_fld T.ct_parts (mv 0)) (sa_nil))) (se_int) (nomark _)))))
theorem sc_times : FnScope ["part", "low", "high"] ["part", "low", "high"] (defScope (top 25)) := ⟨rfl, rfl, rfl, by decide +kernel, rfl, by decide +kernel, by decide +kernel⟩
theorem sim_times (T : Txt K mg) (d : DfD K mg "times" (top 25) ["part", "low", "high"] [.int 0, .non]) (c_is_empty : Cal P w K mg base "is_empty" 1 (m_is_empty_d2ea2)) (c_Chain___init__ : MkOf P w K mg base "Chain" 1 (m_Chain___init___9e3a3)) (c_Times___init__ : MkOf P w K mg base "Times" 1 (m_Times___init___6a51e)) : CalD P w K mg base "times" 3 (m_times_2f53e) [.int 0, .non] := by
  exact cald_mk (k := 2) d sc_times fun f cdv A outer s H E hr => by
   have tk : Takes (cxOf (L2.CX P w) P w K mg base ["part", "low", "high"] "times" (defScope (top 25)) f cdv A outer s H E) (fun c d _ H' => E c d H') := takes_of rfl rfl rfl rfl
   have hu : (A.deeper (PyProof.Rows.envOfC "times" (defScope (top 25)) s.heap.objs.size f cdv)).units + 65 < cLine := by have := hr.un; omega
   have S := sc_times
   exact ss_cons (sx_if ((sw_or (st_cmp op_lt s2_lt (mv 1) (se_int) (nomark _)) (sw_or1 (st_cmp op_gt s2_gt (mv 1) (se_int) (nomark _)))).pt)
      (ss_one (sx_raise0 T.r_NoPattern tk))
      (ss_nil))
      (ss_cons (sx_if ((sw_and (st_cmp op_notN s2_notN (mv 2) (se_non) (nomark _)) (sw_and1 ((sw_or (st_cmp op_lt s2_lt (mv 2) (mv 1) (nomark _)) (sw_or1 (st_cmp op_gt s2_gt (mv 2) (se_int) (nomark _)))).pt))).pt)
      (ss_one (sx_raise0 T.r_NoPattern tk))
      (ss_nil))
      (ss_cons (sx_if ((sw_or (st_cmp (op_eqA hu) s2_eq (mv 2) (se_int) (nomark _)) (sw_or1 (st_val (se_callC c_is_empty (hr.mono (by omega)) tk (sa_cons (mv 0) (sa_nil)))))).pt)
      (ss_one (sx_ret (se_new c_Chain___init__ (hr.mono (by omega)) tk (sa_cons (se_lst (sa_nil)) (sa_nil)))))
      (ss_nil))
      (ss_cons (sx_if ((sw_and (st_cmp (op_eqA hu) s2_eq (mv 1) (se_int) (nomark _)) (sw_and1 (st_cmp (op_eqA hu) s2_eq (mv 2) (se_int) (nomark _)))).pt)
      (ss_one (sx_ret (mv 0)))
      (ss_nil))
      (ss_one (sx_ret (se_new c_Times___init__ (hr.mono (by omega)) tk (sa_cons (mv 0) (sa_cons (mv 1) (sa_cons (mv 2) (sa_nil))))))))))
theorem sc_Mixed___init__ : FnScope ["self", "parts"] ["self", "parts"] (defScope (inner (top 16) 0)) := ⟨rfl, rfl, rfl, by decide +kernel, rfl, by decide +kernel, by decide +kernel⟩
theorem sim_Mixed___init__ (T : Txt K mg) (d : Di K mg "Mixed" "Mixed.__init__" (inner (top 16) 0) ["self", "parts"]) : MkOf P w K mg base "Mixed" 1 (m_Mixed___init___1502e) := by
  exact mkof_mk (k := 0) d sc_Mixed___init__ fun f cdv A outer s H E hr => by
   have tk : Takes (cxOf (L2.CX P w) P w K mg base ["self", "parts"] "Mixed.__init__" (defScope (inner (top 16) 0)) f cdv A outer s H E) (fun c d _ H' => E c d H') := takes_of rfl rfl rfl rfl
   have hu : (A.deeper (PyProof.Rows.envOfC "Mixed.__init__" (defScope (inner (top 16) 0)) s.heap.objs.size f cdv)).units + 65 < cLine := by have := hr.un; omega
   have S := sc_Mixed___init__
   exact ss_one (sx_setFld T.ct_parts (mv 0) (se_callTy call_tupF sn_tuple (by rfl) T.b_tuple (by decide +kernel) (sa_cons (mv 1) (sa_nil))))
theorem sc_mixed : FnScope ["parts", "opened", "part"] ["parts"] (defScope (top 26)) := ⟨rfl, rfl, rfl, by decide +kernel, rfl, by decide +kernel, by decide +kernel⟩
theorem sim_mixed (T : Txt K mg) (d : Df K mg "mixed" (top 26) ["parts"]) (c_is_empty : Cal P w K mg base "is_empty" 1 (m_is_empty_d2ea2)) (c_Chain___init__ : MkOf P w K mg base "Chain" 1 (m_Chain___init___9e3a3)) (c_Mixed___init__ : MkOf P w K mg base "Mixed" 1 (m_Mixed___init___1502e)) : Cal P w K mg base "mixed" 3 (m_mixed_cabfe) := by
  exact cal_mk (k := 2) d sc_mixed fun f cdv A outer s H E hr => by
   have tk : Takes (cxOf (L2.CX P w) P w K mg base ["parts", "opened", "part"] "mixed" (defScope (top 26)) f cdv A outer s H E) (fun c d _ H' => E c d H') := takes_of rfl rfl rfl rfl
   have hu : (A.deeper (PyProof.Rows.envOfC "mixed" (defScope (top 26)) s.heap.objs.size f cdv)).units + 65 < cLine := by have := hr.un; omega
   have S := sc_mixed
   exact ss_cons (sx_set (i := 1) (se_lst (sa_nil)) S.nd)
      (ss_cons (sx_for (passes_of rfl) (si_iter (mv 0)) (sg_name (i := 2) S.nd)
      (ss_one (sx_if (st_val (se_isC T.ic_Mixed (mv 2) T.b_isinstance))
      (ss_one (sx_expr (se_bm PySem.F.plainAttrs_list PySem.F.slot_list_extend PySem.F.type_list_extend mt_extend sty_list sm_extend (mv 1) (sa_cons (se_callTy call_list_of sn_list (by rfl) T.b_list (by decide +kernel) (sa_cons (se_fld T.ct_parts (mv 2)) (sa_nil))) (sa_nil)))))
      (ss_one (sx_if (st_not (st_val (se_callC c_is_empty (hr.mono (by omega)) tk (sa_cons (mv 2) (sa_nil)))))
      (ss_one (sx_expr (se_bm PySem.F.plainAttrs_list PySem.F.slot_list_append PySem.F.type_list_append mt_append sty_list sm_append (mv 1) (sa_cons (mv 2) (sa_nil)))))
      (ss_nil))))))
      (ss_cons (sx_if (st_cmp (op_eqA hu) s2_eq (se_callB call_len sn_len (by rfl) T.b_len (by decide +kernel) (sa_cons (mv 1) (sa_nil))) (se_int) (nomark _))
      (ss_one (sx_ret (se_new c_Chain___init__ (hr.mono (by omega)) tk (sa_cons (se_lst (sa_nil)) (sa_nil)))))
      (ss_nil))
      (ss_cons (sx_if (st_cmp (op_eqA hu) s2_eq (se_callB call_len sn_len (by rfl) T.b_len (by decide +kernel) (sa_cons (mv 1) (sa_nil))) (se_int) (nomark _))
      (ss_one (sx_ret (se_ix ix_seq s2_ix (mv 1) (se_int) (fun _ _ => rfl))))
      (ss_nil))
      (ss_one (sx_ret (se_new c_Mixed___init__ (hr.mono (by omega)) tk (sa_cons (mv 1) (sa_nil))))))))
theorem sc__law_pattern : FnScope ["_law_forms", "_law_tape_here", "_law_some", "_law_way", "_law_form"] ["_law_forms", "_law_tape_here"] (defScope (top 33)) := ⟨rfl, rfl, rfl, by decide +kernel, rfl, by decide +kernel, by decide +kernel⟩
theorem sim__law_pattern (T : Txt K mg) (d : Df K mg "_law_pattern" (top 33) ["_law_forms", "_law_tape_here"]) (c_one : Cal P w K mg base "one" 3 (m_one_dbedc)) (c__law_next : Cal P w K mg base "_law_next" 1 (m_next_fea17)) (c_chain : Cal P w K mg base "chain" 3 (m_chain_974c3)) (c_choice : Cal P w K mg base "choice" 103 (m_choice_458e9)) (c_times : CalD P w K mg base "times" 3 (m_times_2f53e) [.int 0, .non]) (c_mixed : Cal P w K mg base "mixed" 3 (m_mixed_cabfe)) : Cal P w K mg base "_law_pattern" 104 (m_pattern_fe5af) := by
  exact cal_mk (k := 103) d sc__law_pattern fun f cdv A outer s H E hr => by
   have tk : Takes (cxOf (L2.CX P w) P w K mg base ["_law_forms", "_law_tape_here", "_law_some", "_law_way", "_law_form"] "_law_pattern" (defScope (top 33)) f cdv A outer s H E) (fun c d _ H' => E c d H') := takes_of rfl rfl rfl rfl
   have hu : (A.deeper (PyProof.Rows.envOfC "_law_pattern" (defScope (top 33)) s.heap.objs.size f cdv)).units + 65 < cLine := by have := hr.un; omega
   have S := sc__law_pattern
   exact ss_cons ((by first | exact sx_setLc (own := [("_law_form", 4)]) (i := 2) S.nd (si_iter (mv 0)) (blkOk_by (N := ["_law_forms", "_law_tape_here", "_law_some", "_law_way", "_law_form"]) (sc := defScope (top 33)) (by decide +kernel)) (tg_name 4) (fun _ _ _ _ _ => pg_name (i := 4) S.nd rfl (Or.inl rfl)) (fun _ _ _ _ _ => st_nil) (fun _ _ _ _ _ => se_callC c_one (hr.mono (by omega)) takes0 (sa_cons (mv 4) (sa_nil))) | exact sx_set (i := 2) (se_lc (own := [("_law_form", 4)]) S.nd (si_iter (mv 0)) (blkOk_by (N := ["_law_forms", "_law_tape_here", "_law_some", "_law_way", "_law_form"]) (sc := defScope (top 33)) (by decide +kernel)) (tg_name 4) (fun _ _ _ _ _ => pg_name (i := 4) S.nd rfl (Or.inl rfl)) (fun _ _ _ _ _ => st_nil) (fun _ _ _ _ _ => se_callC c_one (hr.mono (by omega)) takes0 (sa_cons (mv 4) (sa_nil)))) S.nd))
      (ss_cons (sx_set (i := 3) (se_callC c__law_next (hr.mono (by omega)) tk (sa_cons (mv 1) (sa_cons (se_int) (sa_nil)))) S.nd)
      (ss_cons (sx_if ((sw_or (st_cmp (op_eqA hu) s2_eq (mv 3) (se_int) (nomark _)) (sw_or1 (st_cmp (op_eqA hu) s2_eq (se_callB call_len sn_len (by rfl) T.b_len (by decide +kernel) (sa_cons (mv 2) (sa_nil))) (se_int) (nomark _)))).pt)
      (ss_one (sx_ret (se_callC c_chain (hr.mono (by omega)) tk (sa_cons (mv 2) (sa_nil)))))
      (ss_nil))
      (ss_cons (sx_if (st_cmp (op_eqA hu) s2_eq (mv 3) (se_int) (nomark _))
      (ss_one (sx_ret (se_callC c_choice (hr.mono (by omega)) tk (sa_cons (mv 2) (sa_nil)))))
      (ss_nil))
      (ss_cons (sx_if (st_cmp (op_eqA hu) s2_eq (mv 3) (se_int) (nomark _))
      (ss_one (sx_ret (se_callD 1 (by decide) (by decide) c_times (hr.mono (by omega)) tk (sa_cons (se_callC c_mixed (hr.mono (by omega)) tk (sa_cons (mv 2) (sa_nil))) (sa_cons (se_callC c__law_next (hr.mono (by omega)) tk (sa_cons (mv 1) (sa_cons (se_int) (sa_nil)))) (sa_nil))))))
      (ss_nil))
      (ss_one (sx_ret (se_callC c_chain (hr.mono (by omega)) tk (sa_cons (se_bin op_addA s2_add (se_lst (sa_cons (se_callD 2 (by decide) (by decide) c_times (hr.mono (by omega)) tk (sa_cons (se_ix ix_seq s2_ix (mv 2) (se_int) (fun _ _ => rfl)) (sa_cons (se_int) (sa_cons (se_int) (sa_nil))))) (sa_nil))) (se_slice (mv 2) (sp_some (se_int)) (sp_none))) (sa_nil)))))))))
theorem sc_One_speaks : FnScope ["self"] ["self"] (defScope (inner (top 12) 4)) := ⟨rfl, rfl, rfl, by decide +kernel, rfl, by decide +kernel, by decide +kernel⟩
theorem sim_One_speaks (T : Txt K mg) (d : Dm K "One" "speaks" "One.speaks" (inner (top 12) 4) ["self"]) : MtOf P w K mg base "One" "speaks" 1 (m_One_speaks_46a94) := by
  exact mtof_mk (k := 0) d sc_One_speaks fun f cdv A outer s H E hr => by
   have tk : Takes (cxOf (L2.CX P w) P w K mg base ["self"] "One.speaks" (defScope (inner (top 12) 4)) f cdv A outer s H E) (fun c d _ H' => E c d H') := takes_of rfl rfl rfl rfl
   have hu : (A.deeper (PyProof.Rows.envOfC "One.speaks" (defScope (inner (top 12) 4)) s.heap.objs.size f cdv)).units + 65 < cLine := by have := hr.un; omega
   have S := sc_One_speaks
   exact ss_one (sx_ret (se_lst (sa_cons (se_fld T.ct_form (mv 0)) (sa_nil))))
theorem sc_Chain_speaks : FnScope ["self"] ["self"] (defScope (inner (top 13) 4)) := ⟨rfl, rfl, rfl, by decide +kernel, rfl, by decide +kernel, by decide +kernel⟩
theorem sim_Chain_speaks (T : Txt K mg) (d : Dm K "Chain" "speaks" "Chain.speaks" (inner (top 13) 4) ["self"]) {k : Nat} {S : Nat → List D → MH → R D} (hk : 0 ≤ k) (c_all_spoken : Cal P w K mg base "all_spoken" k (S 4)) : MtOf P w K mg base "Chain" "speaks" (k + 1) (m_Chain_speaks_3d286 S) := by
  exact mtof_mk (k := k) d sc_Chain_speaks fun f cdv A outer s H E hr => by
   have tk : Takes (cxOf (L2.CX P w) P w K mg base ["self"] "Chain.speaks" (defScope (inner (top 13) 4)) f cdv A outer s H E) (fun c d _ H' => E c d H') := takes_of rfl rfl rfl rfl
   have hu : (A.deeper (PyProof.Rows.envOfC "Chain.speaks" (defScope (inner (top 13) 4)) s.heap.objs.size f cdv)).units + 65 < cLine := by have := hr.un; omega
   have SC := sc_Chain_speaks
   exact ss_one (sx_ret (se_callC c_all_spoken (hr.mono (by omega)) tk (sa_cons (se_fld T.ct_parts (mv 0)) (sa_nil))))
theorem sc_Choice_speaks : FnScope ["self"] ["self"] (defScope (inner (top 14) 4)) := ⟨rfl, rfl, rfl, by decide +kernel, rfl, by decide +kernel, by decide +kernel⟩
theorem sim_Choice_speaks (T : Txt K mg) (d : Dm K "Choice" "speaks" "Choice.speaks" (inner (top 14) 4) ["self"]) {k : Nat} {S : Nat → List D → MH → R D} (hk : 0 ≤ k) (c_all_spoken : Cal P w K mg base "all_spoken" k (S 4)) : MtOf P w K mg base "Choice" "speaks" (k + 1) (m_Choice_speaks_61bc5 S) := by
  exact mtof_mk (k := k) d sc_Choice_speaks fun f cdv A outer s H E hr => by
   have tk : Takes (cxOf (L2.CX P w) P w K mg base ["self"] "Choice.speaks" (defScope (inner (top 14) 4)) f cdv A outer s H E) (fun c d _ H' => E c d H') := takes_of rfl rfl rfl rfl
   have hu : (A.deeper (PyProof.Rows.envOfC "Choice.speaks" (defScope (inner (top 14) 4)) s.heap.objs.size f cdv)).units + 65 < cLine := by have := hr.un; omega
   have SC := sc_Choice_speaks
   exact ss_one (sx_ret (se_callC c_all_spoken (hr.mono (by omega)) tk (sa_cons (se_fld T.ct_parts (mv 0)) (sa_nil))))
theorem sc_Mixed_speaks : FnScope ["self"] ["self"] (defScope (inner (top 16) 4)) := ⟨rfl, rfl, rfl, by decide +kernel, rfl, by decide +kernel, by decide +kernel⟩
theorem sim_Mixed_speaks (T : Txt K mg) (d : Dm K "Mixed" "speaks" "Mixed.speaks" (inner (top 16) 4) ["self"]) {k : Nat} {S : Nat → List D → MH → R D} (hk : 0 ≤ k) (c_all_spoken : Cal P w K mg base "all_spoken" k (S 4)) : MtOf P w K mg base "Mixed" "speaks" (k + 1) (m_Mixed_speaks_bc979 S) := by
  exact mtof_mk (k := k) d sc_Mixed_speaks fun f cdv A outer s H E hr => by
   have tk : Takes (cxOf (L2.CX P w) P w K mg base ["self"] "Mixed.speaks" (defScope (inner (top 16) 4)) f cdv A outer s H E) (fun c d _ H' => E c d H') := takes_of rfl rfl rfl rfl
   have hu : (A.deeper (PyProof.Rows.envOfC "Mixed.speaks" (defScope (inner (top 16) 4)) s.heap.objs.size f cdv)).units + 65 < cLine := by have := hr.un; omega
   have SC := sc_Mixed_speaks
   exact ss_one (sx_ret (se_callC c_all_spoken (hr.mono (by omega)) tk (sa_cons (se_fld T.ct_parts (mv 0)) (sa_nil))))
theorem sc_Times_speaks : FnScope ["self"] ["self"] (defScope (inner (top 15) 4)) := ⟨rfl, rfl, rfl, by decide +kernel, rfl, by decide +kernel, by decide +kernel⟩
theorem sim_Times_speaks (T : Txt K mg) (d : Dm K "Times" "speaks" "Times.speaks" (inner (top 15) 4) ["self"]) (c_One_speaks : MtOf P w K mg base "One" "speaks" 1 (m_One_speaks_46a94)) {k : Nat} {S : Nat → List D → MH → R D} (hk : 1 ≤ k) (c_Chain_speaks : MtOf P w K mg base "Chain" "speaks" k (S 0)) (c_Choice_speaks : MtOf P w K mg base "Choice" "speaks" k (S 1)) (c_Times_speaks : MtOf P w K mg base "Times" "speaks" k (S 3)) (c_Mixed_speaks : MtOf P w K mg base "Mixed" "speaks" k (S 2)) : MtOf P w K mg base "Times" "speaks" (k + 1) (m_Times_speaks_3b929 S) := by
  exact mtof_mk (k := k) d sc_Times_speaks fun f cdv A outer s H E hr => by
   have tk : Takes (cxOf (L2.CX P w) P w K mg base ["self"] "Times.speaks" (defScope (inner (top 15) 4)) f cdv A outer s H E) (fun c d _ H' => E c d H') := takes_of rfl rfl rfl rfl
   have hu : (A.deeper (PyProof.Rows.envOfC "Times.speaks" (defScope (inner (top 15) 4)) s.heap.objs.size f cdv)).units + 65 < cLine := by have := hr.un; omega
   have SC := sc_Times_speaks
   exact ss_one (sx_ret (se_meth0 (k := k) (mt_cons (MtOf.mono c_One_speaks (by omega)) (mt_cons (MtOf.mono c_Chain_speaks (by omega)) (mt_cons (MtOf.mono c_Choice_speaks (by omega)) (mt_cons (MtOf.mono c_Times_speaks (by omega)) (mt_cons (MtOf.mono c_Mixed_speaks (by omega)) (mt_nil)))))) (hr.mono (by omega)) tk (se_fld T.ct_part (mv 0))))
theorem sc_all_spoken : FnScope ["parts", "known", "part", "form"] ["parts"] (defScope (top 18)) := ⟨rfl, rfl, rfl, by decide +kernel, rfl, by decide +kernel, by decide +kernel⟩
theorem sim_all_spoken (T : Txt K mg) (d : Df K mg "all_spoken" (top 18) ["parts"]) (c_One_speaks : MtOf P w K mg base "One" "speaks" 1 (m_One_speaks_46a94)) {k : Nat} {S : Nat → List D → MH → R D} (hk : 1 ≤ k) (c_Chain_speaks : MtOf P w K mg base "Chain" "speaks" k (S 0)) (c_Choice_speaks : MtOf P w K mg base "Choice" "speaks" k (S 1)) (c_Times_speaks : MtOf P w K mg base "Times" "speaks" k (S 3)) (c_Mixed_speaks : MtOf P w K mg base "Mixed" "speaks" k (S 2)) : Cal P w K mg base "all_spoken" (k + 1) (m_all_spoken_50ba5 S) := by
  exact cal_mk (k := k) d sc_all_spoken fun f cdv A outer s H E hr => by
   have tk : Takes (cxOf (L2.CX P w) P w K mg base ["parts", "known", "part", "form"] "all_spoken" (defScope (top 18)) f cdv A outer s H E) (fun c d _ H' => E c d H') := takes_of rfl rfl rfl rfl
   have hu : (A.deeper (PyProof.Rows.envOfC "all_spoken" (defScope (top 18)) s.heap.objs.size f cdv)).units + 65 < cLine := by have := hr.un; omega
   have SC := sc_all_spoken
   exact ss_cons (sx_set (i := 1) (se_dict0) SC.nd)
      (ss_cons (sx_for (passes_of rfl) (si_iter (mv 0)) (sg_name (i := 2) SC.nd)
      (ss_one (sx_for (passes_of rfl) (si_iter (se_meth0 (k := k) (mt_cons (MtOf.mono c_One_speaks (by omega)) (mt_cons (MtOf.mono c_Chain_speaks (by omega)) (mt_cons (MtOf.mono c_Choice_speaks (by omega)) (mt_cons (MtOf.mono c_Times_speaks (by omega)) (mt_cons (MtOf.mono c_Mixed_speaks (by omega)) (mt_nil)))))) (hr.mono (by omega)) tk (mv 2))) (sg_name (i := 3) SC.nd)
      (ss_one (sx_dset hu (mv 1) (mv 3) (se_bl))))))
      (ss_one (sx_ret (se_callB (cr_sortK hu rfl) sn_sortK (by rfl) T.b_sorted (by decide +kernel) (sa_cons (mv 1) (sa_nil))))))
theorem simg_Chain_speaks (T : Txt K mg) (d_Chain_speaks : Dm K "Chain" "speaks" "Chain.speaks" (inner (top 13) 4) ["self"]) (d_Choice_speaks : Dm K "Choice" "speaks" "Choice.speaks" (inner (top 14) 4) ["self"]) (d_Mixed_speaks : Dm K "Mixed" "speaks" "Mixed.speaks" (inner (top 16) 4) ["self"]) (d_Times_speaks : Dm K "Times" "speaks" "Times.speaks" (inner (top 15) 4) ["self"]) (d_all_spoken : Df K mg "all_spoken" (top 18) ["parts"]) (c_One_speaks : MtOf P w K mg base "One" "speaks" 1 (m_One_speaks_46a94)) : ∀ n, (MtOf P w K mg base "Chain" "speaks" (n + 1) (m_scc_Chain_speaks_d27eb n 0)) ∧ (MtOf P w K mg base "Choice" "speaks" (n + 1) (m_scc_Chain_speaks_d27eb n 1)) ∧ (MtOf P w K mg base "Mixed" "speaks" (n + 1) (m_scc_Chain_speaks_d27eb n 2)) ∧ (MtOf P w K mg base "Times" "speaks" (n + 1) (m_scc_Chain_speaks_d27eb n 3)) ∧ (Cal P w K mg base "all_spoken" (n + 1) (m_scc_Chain_speaks_d27eb n 4))
 | 0 => ⟨mtof_none d_Chain_speaks (fun _ _ => rfl), mtof_none d_Choice_speaks (fun _ _ => rfl), mtof_none d_Mixed_speaks (fun _ _ => rfl), mtof_none d_Times_speaks (fun _ _ => rfl), cal_none d_all_spoken (fun _ _ => rfl)⟩
 | n + 1 => by
  obtain ⟨i_Chain_speaks, i_Choice_speaks, i_Mixed_speaks, i_Times_speaks, i_all_spoken⟩ := simg_Chain_speaks T d_Chain_speaks d_Choice_speaks d_Mixed_speaks d_Times_speaks d_all_spoken c_One_speaks n
  have e : n + 1 + 1 = (n + 1) + 1 := by omega
  rw [e]
  exact ⟨sim_Chain_speaks T d_Chain_speaks (by omega) i_all_spoken, sim_Choice_speaks T d_Choice_speaks (by omega) i_all_spoken, sim_Mixed_speaks T d_Mixed_speaks (by omega) i_all_spoken, sim_Times_speaks T d_Times_speaks c_One_speaks (by omega) i_Chain_speaks i_Choice_speaks i_Times_speaks i_Mixed_speaks, sim_all_spoken T d_all_spoken c_One_speaks (by omega) i_Chain_speaks i_Choice_speaks i_Times_speaks i_Mixed_speaks⟩
theorem sc_book_of : FnScope ["rules", "known", "k", "form"] ["rules"] (defScope (top 9)) := ⟨rfl, rfl, rfl, by decide +kernel, rfl, by decide +kernel, by decide +kernel⟩
theorem sim_book_of (T : Txt K mg) (d : Df K mg "book_of" (top 9) ["rules"]) (c_One_speaks : MtOf P w K mg base "One" "speaks" 1 (m_One_speaks_46a94)) (c_Chain_speaks : MtOf P w K mg base "Chain" "speaks" 41 (m_scc_Chain_speaks_d27eb 40 0)) (c_Choice_speaks : MtOf P w K mg base "Choice" "speaks" 41 (m_scc_Chain_speaks_d27eb 40 1)) (c_Times_speaks : MtOf P w K mg base "Times" "speaks" 41 (m_scc_Chain_speaks_d27eb 40 3)) (c_Mixed_speaks : MtOf P w K mg base "Mixed" "speaks" 41 (m_scc_Chain_speaks_d27eb 40 2)) (xi_NoBook : XI P w K mg base "NoBook" "row") : Cal P w K mg base "book_of" 42 (m_book_of_964ed) := by
  obtain ⟨t_RULES, g_RULES⟩ := T.g_RULES
  exact cal_mk (k := 41) d sc_book_of fun f cdv A outer s H E hr => by
   have tk : Takes (cxOf (L2.CX P w) P w K mg base ["rules", "known", "k", "form"] "book_of" (defScope (top 9)) f cdv A outer s H E) (fun c d _ H' => E c d H') := takes_of rfl rfl rfl rfl
   have hu : (A.deeper (PyProof.Rows.envOfC "book_of" (defScope (top 9)) s.heap.objs.size f cdv)).units + 65 < cLine := by have := hr.un; omega
   have S := sc_book_of
   exact ss_cons (sx_if (st_cmp (op_eqA hu) s2_eq (se_callB call_len sn_len (by rfl) T.b_len (by decide +kernel) (sa_cons (mv 0) (sa_nil))) (se_int) (nomark _))
      (ss_one (sx_raise (f := "row") xi_NoBook (hr.mono (by omega)) tk (se_int)))
      (ss_nil))
      (ss_cons (sx_if (st_cmp op_gt s2_gt (se_callB call_len sn_len (by rfl) T.b_len (by decide +kernel) (sa_cons (mv 0) (sa_nil))) (se_globI (by rfl) g_RULES) (nomark _))
      (ss_one (sx_raise (f := "row") xi_NoBook (hr.mono (by omega)) tk (se_globI (by rfl) g_RULES)))
      (ss_nil))
      (ss_cons (sx_set (i := 1) (se_dict0) S.nd)
      (ss_cons (sx_for (passes_of rfl) (si_range1 T.b_range (se_callB call_len sn_len (by rfl) T.b_len (by decide +kernel) (sa_cons (mv 0) (sa_nil)))) (sg_name (i := 2) S.nd)
      (ss_cons (sx_if (st_cmp (op_dIn hu) s2_dIn (se_ix ix_seq s2_ix (se_ix ix_seq s2_ix (mv 0) (mv 2) (fun _ _ => rfl)) (se_int) (fun _ _ => rfl)) (mv 1) rfl)
      (ss_one (sx_raise (f := "row") xi_NoBook (hr.mono (by omega)) tk (mv 2)))
      (ss_nil))
      (ss_one (sx_dset hu (mv 1) (se_ix ix_seq s2_ix (se_ix ix_seq s2_ix (mv 0) (mv 2) (fun _ _ => rfl)) (se_int) (fun _ _ => rfl)) (se_bl)))))
      (ss_cons (sx_for (passes_of rfl) (si_range1 T.b_range (se_callB call_len sn_len (by rfl) T.b_len (by decide +kernel) (sa_cons (mv 0) (sa_nil)))) (sg_name (i := 2) S.nd)
      (ss_one (sx_for (passes_of rfl) (si_iter (se_meth0 (k := 41) (mt_cons (MtOf.mono c_One_speaks (by omega)) (mt_cons (MtOf.mono c_Chain_speaks (by omega)) (mt_cons (MtOf.mono c_Choice_speaks (by omega)) (mt_cons (MtOf.mono c_Times_speaks (by omega)) (mt_cons (MtOf.mono c_Mixed_speaks (by omega)) (mt_nil)))))) (hr.mono (by omega)) tk (se_ix ix_seq s2_ix (se_ix ix_seq s2_ix (mv 0) (mv 2) (fun _ _ => rfl)) (se_int) (fun _ _ => rfl)))) (sg_name (i := 3) S.nd)
      (ss_one (sx_if (st_cmp (op_dNotIn hu) s2_dNotIn (mv 3) (mv 1) rfl)
      (ss_one (sx_raise (f := "row") xi_NoBook (hr.mono (by omega)) tk (mv 2)))
      (ss_nil))))))
      (ss_one (sx_ret (se_callTy call_tupF sn_tuple (by rfl) T.b_tuple (by decide +kernel) (sa_cons (mv 0) (sa_nil)))))))))
theorem sc__law_alike : FnScope ["_law_found", "_law_rows_here", "_law_tolds_due", "_law_k", "_law_rule"] ["_law_found", "_law_rows_here", "_law_tolds_due"] (defScope (top 36)) := ⟨rfl, rfl, rfl, by decide +kernel, rfl, by decide +kernel, by decide +kernel⟩
theorem sim__law_alike (T : Txt K mg) (d : Df K mg "_law_alike" (top 36) ["_law_found", "_law_rows_here", "_law_tolds_due"]) (c_One_told : MtOf P w K mg base "One" "told" 1 (m_One_told_38426)) (c_Chain_told : MtOf P w K mg base "Chain" "told" 41 (m_scc_Chain_told_612a9 40 0)) (c_Choice_told : MtOf P w K mg base "Choice" "told" 41 (m_scc_Chain_told_612a9 40 1)) (c_Times_told : MtOf P w K mg base "Times" "told" 41 (m_scc_Chain_told_612a9 40 3)) (c_Mixed_told : MtOf P w K mg base "Mixed" "told" 41 (m_scc_Chain_told_612a9 40 2)) : Cal P w K mg base "_law_alike" 42 (m_alike_1e0ec) := by
  exact cal_mk (k := 41) d sc__law_alike fun f cdv A outer s H E hr => by
   have tk : Takes (cxOf (L2.CX P w) P w K mg base ["_law_found", "_law_rows_here", "_law_tolds_due", "_law_k", "_law_rule"] "_law_alike" (defScope (top 36)) f cdv A outer s H E) (fun c d _ H' => E c d H') := takes_of rfl rfl rfl rfl
   have hu : (A.deeper (PyProof.Rows.envOfC "_law_alike" (defScope (top 36)) s.heap.objs.size f cdv)).units + 65 < cLine := by have := hr.un; omega
   have S := sc__law_alike
   exact ss_cons (sx_if (st_cmp (op_neA hu) s2_ne (se_callB call_len sn_len (by rfl) T.b_len (by decide +kernel) (sa_cons (mv 0) (sa_nil))) (se_callB call_len sn_len (by rfl) T.b_len (by decide +kernel) (sa_cons (mv 1) (sa_nil))) (nomark _))
      (ss_one (sx_ret (se_bl)))
      (ss_nil))
      (ss_cons (sx_for (passes_of rfl) (si_range1 T.b_range (se_callB call_len sn_len (by rfl) T.b_len (by decide +kernel) (sa_cons (mv 1) (sa_nil)))) (sg_name (i := 3) S.nd)
      (ss_cons (sx_set (i := 4) (se_ix ix_seq s2_ix (mv 0) (mv 3) (fun _ _ => rfl)) S.nd)
      (ss_cons (sx_if ((sw_or (st_not (st_val (se_isi (mv 4) T.b_isinstance T.b_tuple (by decide +kernel)))) (sw_or1 (st_cmp (op_neA hu) s2_ne (se_callB call_len sn_len (by rfl) T.b_len (by decide +kernel) (sa_cons (mv 4) (sa_nil))) (se_int) (nomark _)))).pt)
      (ss_one (sx_ret (se_bl)))
      (ss_nil))
      (ss_cons (sx_if ((sw_or (st_not (st_val (se_isi (se_ix ix_seq s2_ix (mv 4) (se_int) (fun _ _ => rfl)) T.b_isinstance T.b_str (by decide +kernel)))) (sw_or1 (st_not (st_val (se_isi (se_ix ix_seq s2_ix (mv 4) (se_int) (fun _ _ => rfl)) T.b_isinstance T.b_str (by decide +kernel)))))).pt)
      (ss_one (sx_ret (se_bl)))
      (ss_nil))
      (ss_one (sx_if ((sw_or (st_cmp (op_neA hu) s2_ne (se_ix ix_seq s2_ix (mv 4) (se_int) (fun _ _ => rfl)) (se_ix ix_seq s2_ix (se_ix ix_seq s2_ix (mv 1) (mv 3) (fun _ _ => rfl)) (se_int) (fun _ _ => rfl)) (nomark _)) (sw_or (st_cmp (op_neA hu) s2_ne (se_ix ix_seq s2_ix (mv 4) (se_int) (fun _ _ => rfl)) (se_ix ix_seq s2_ix (se_ix ix_seq s2_ix (mv 1) (mv 3) (fun _ _ => rfl)) (se_int) (fun _ _ => rfl)) (nomark _)) (sw_or1 (st_cmp (op_neA hu) s2_ne (se_meth0 (k := 41) (mt_cons (MtOf.mono c_One_told (by omega)) (mt_cons (MtOf.mono c_Chain_told (by omega)) (mt_cons (MtOf.mono c_Choice_told (by omega)) (mt_cons (MtOf.mono c_Times_told (by omega)) (mt_cons (MtOf.mono c_Mixed_told (by omega)) (mt_nil)))))) (hr.mono (by omega)) tk (se_ix ix_seq s2_ix (mv 4) (se_int) (fun _ _ => rfl))) (se_ix ix_seq s2_ix (mv 2) (mv 3) (fun _ _ => rfl)) (nomark _))))).pt)
      (ss_one (sx_ret (se_bl)))
      (ss_nil)))))))
      (ss_one (sx_ret (se_bl))))
theorem sc__law_refused : FnScope ["_law_refused_here", "_law_due_here"] ["_law_refused_here", "_law_due_here"] (defScope (top 37)) := ⟨rfl, rfl, rfl, by decide +kernel, rfl, by decide +kernel, by decide +kernel⟩
theorem sim__law_refused (T : Txt K mg) (d : Df K mg "_law_refused" (top 37) ["_law_refused_here", "_law_due_here"]) : Cal P w K mg base "_law_refused" 1 (m_refused_77372) := by
  exact cal_mk (k := 0) d sc__law_refused fun f cdv A outer s H E hr => by
   have tk : Takes (cxOf (L2.CX P w) P w K mg base ["_law_refused_here", "_law_due_here"] "_law_refused" (defScope (top 37)) f cdv A outer s H E) (fun c d _ H' => E c d H') := takes_of rfl rfl rfl rfl
   have hu : (A.deeper (PyProof.Rows.envOfC "_law_refused" (defScope (top 37)) s.heap.objs.size f cdv)).units + 65 < cLine := by have := hr.un; omega
   have S := sc__law_refused
   exact ss_cons (sx_if ((sw_or (st_not (st_val (se_isO T.is_GraftError (mv 0) T.b_isinstance))) (sw_or1 (st_not (st_val (se_isV T.is_ValueError (mv 0) T.b_isinstance T.b_ValueError (by decide +kernel)))))).pt)
      (ss_one (sx_ret (se_bl)))
      (ss_nil))
      (ss_cons (sx_if (st_val (se_isOs T.is_NoForm_NoPattern_NoTurner (mv 0) T.b_isinstance (nm_cons (nm_cons (nm_cons (NmE.nil))))))
      (ss_one (sx_ret (se_bl)))
      (ss_nil))
      (ss_one (sx_ret (se_and (se_isi (se_fl T.fl_row (mv 0)) T.b_isinstance T.b_int (by decide +kernel)) (se_and (se_not (se_isi (se_fl T.fl_row (mv 0)) T.b_isinstance T.b_bool (by decide +kernel))) (se_one (se_cmp (op_eqA hu) s2_eq (se_fl T.fl_row (mv 0)) (mv 1) (nomark _))))))))
theorem sc_law : FnScope ["_law_script", "_law_pool", "_law_rows_here", "_law_tapes", "_law_patterns", "_law_tolds_due", "_law_handed", "_law_due_here", "_law_refused_here", "_law_found", "e", "_law_k", "_law_pattern_here"] ["_law_script"] (defScope (top 38)) := ⟨rfl, rfl, rfl, by decide +kernel, rfl, by decide +kernel, by decide +kernel⟩
theorem sim_law {fa : Addr} {fd : FuncData} (T : Txt K mg) (F : Fun K "law" "law" (top 38) fa fd) (c__law_names : Cal P w K mg base "_law_names" 1 (m_names_c11ae)) (c__law_cell_at : Cal P w K mg base "_law_cell_at" 1 (m_cell_at_2c4cb)) (c__law_rows : Cal P w K mg base "_law_rows" 3 (m_rows_cc517)) (c__law_tape : Cal P w K mg base "_law_tape" 2 (m_tape_92891)) (c__law_pattern : Cal P w K mg base "_law_pattern" 104 (m_pattern_fe5af)) (c_One_told : MtOf P w K mg base "One" "told" 1 (m_One_told_38426)) (c_Chain_told : MtOf P w K mg base "Chain" "told" 41 (m_scc_Chain_told_612a9 40 0)) (c_Choice_told : MtOf P w K mg base "Choice" "told" 41 (m_scc_Chain_told_612a9 40 1)) (c_Times_told : MtOf P w K mg base "Times" "told" 41 (m_scc_Chain_told_612a9 40 3)) (c_Mixed_told : MtOf P w K mg base "Mixed" "told" 41 (m_scc_Chain_told_612a9 40 2)) (c__law_due : Cal P w K mg base "_law_due" 1 (m_due_40573)) (c_book_of : Cal P w K mg base "book_of" 42 (m_book_of_964ed)) (c__law_alike : Cal P w K mg base "_law_alike" 42 (m_alike_1e0ec)) (c__law_refused : Cal P w K mg base "_law_refused" 1 (m_refused_77372)) : FnOk P w K mg base (L2.CX P w) 105 fa fd ["_law_script"] (spM (gOf w K) m_law_afabe) := by
  exact fn_mk (k := 104) F sc_law fun cdv A outer s H E hr => by
   have tk : Takes (cxOf (L2.CX P w) P w K mg base ["_law_script", "_law_pool", "_law_rows_here", "_law_tapes", "_law_patterns", "_law_tolds_due", "_law_handed", "_law_due_here", "_law_refused_here", "_law_found", "e", "_law_k", "_law_pattern_here"] "law" (defScope (top 38)) fa cdv A outer s H E) (fun c d _ H' => E c d H') := takes_of rfl rfl rfl rfl
   have hu : (A.deeper (PyProof.Rows.envOfC "law" (defScope (top 38)) s.heap.objs.size fa cdv)).units + 65 < cLine := by have := hr.un; omega
   have S := sc_law
   exact ss_cons (sx_set (i := 1) (se_callC c__law_names (hr.mono (by omega)) tk (sa_cons (se_callC c__law_cell_at (hr.mono (by omega)) tk (sa_cons (mv 0) (sa_cons (se_int) (sa_nil)))) (sa_nil))) S.nd)
      (ss_cons (sx_set (i := 2) (se_callC c__law_rows (hr.mono (by omega)) tk (sa_cons (mv 0) (sa_cons (mv 1) (sa_nil)))) S.nd)
      (ss_cons ((by first | exact sx_setLc (own := [("_law_k", 11)]) (i := 3) S.nd (si_range1 T.b_range (se_callB call_len sn_len (by rfl) T.b_len (by decide +kernel) (sa_cons (mv 2) (sa_nil)))) (blkOk_by (N := ["_law_script", "_law_pool", "_law_rows_here", "_law_tapes", "_law_patterns", "_law_tolds_due", "_law_handed", "_law_due_here", "_law_refused_here", "_law_found", "e", "_law_k", "_law_pattern_here"]) (sc := defScope (top 38)) (by decide +kernel)) (tg_name 11) (fun _ _ _ _ _ => pg_name (i := 11) S.nd rfl (Or.inl rfl)) (fun _ _ _ _ _ => st_nil) (fun _ _ _ _ _ => se_callC c__law_tape (hr.mono (by omega)) takes0 (sa_cons (se_callC c__law_cell_at (hr.mono (by omega)) takes0 (sa_cons (mv 0) (sa_cons (se_bin op_addA s2_add (se_int) (mv 11)) (sa_nil)))) (sa_cons (se_int) (sa_nil)))) | exact sx_set (i := 3) (se_lc (own := [("_law_k", 11)]) S.nd (si_range1 T.b_range (se_callB call_len sn_len (by rfl) T.b_len (by decide +kernel) (sa_cons (mv 2) (sa_nil)))) (blkOk_by (N := ["_law_script", "_law_pool", "_law_rows_here", "_law_tapes", "_law_patterns", "_law_tolds_due", "_law_handed", "_law_due_here", "_law_refused_here", "_law_found", "e", "_law_k", "_law_pattern_here"]) (sc := defScope (top 38)) (by decide +kernel)) (tg_name 11) (fun _ _ _ _ _ => pg_name (i := 11) S.nd rfl (Or.inl rfl)) (fun _ _ _ _ _ => st_nil) (fun _ _ _ _ _ => se_callC c__law_tape (hr.mono (by omega)) takes0 (sa_cons (se_callC c__law_cell_at (hr.mono (by omega)) takes0 (sa_cons (mv 0) (sa_cons (se_bin op_addA s2_add (se_int) (mv 11)) (sa_nil)))) (sa_cons (se_int) (sa_nil))))) S.nd))
      (ss_cons ((by first | exact sx_setLc (own := [("_law_k", 11)]) (i := 4) S.nd (si_range1 T.b_range (se_callB call_len sn_len (by rfl) T.b_len (by decide +kernel) (sa_cons (mv 2) (sa_nil)))) (blkOk_by (N := ["_law_script", "_law_pool", "_law_rows_here", "_law_tapes", "_law_patterns", "_law_tolds_due", "_law_handed", "_law_due_here", "_law_refused_here", "_law_found", "e", "_law_k", "_law_pattern_here"]) (sc := defScope (top 38)) (by decide +kernel)) (tg_name 11) (fun _ _ _ _ _ => pg_name (i := 11) S.nd rfl (Or.inl rfl)) (fun _ _ _ _ _ => st_nil) (fun _ _ _ _ _ => se_callC c__law_pattern (hr.mono (by omega)) takes0 (sa_cons (se_ix ix_seq s2_ix (se_ix ix_seq s2_ix (mv 2) (mv 11) (fun _ _ => rfl)) (se_int) (fun _ _ => rfl)) (sa_cons (se_ix ix_seq s2_ix (mv 3) (mv 11) (fun _ _ => rfl)) (sa_nil)))) | exact sx_set (i := 4) (se_lc (own := [("_law_k", 11)]) S.nd (si_range1 T.b_range (se_callB call_len sn_len (by rfl) T.b_len (by decide +kernel) (sa_cons (mv 2) (sa_nil)))) (blkOk_by (N := ["_law_script", "_law_pool", "_law_rows_here", "_law_tapes", "_law_patterns", "_law_tolds_due", "_law_handed", "_law_due_here", "_law_refused_here", "_law_found", "e", "_law_k", "_law_pattern_here"]) (sc := defScope (top 38)) (by decide +kernel)) (tg_name 11) (fun _ _ _ _ _ => pg_name (i := 11) S.nd rfl (Or.inl rfl)) (fun _ _ _ _ _ => st_nil) (fun _ _ _ _ _ => se_callC c__law_pattern (hr.mono (by omega)) takes0 (sa_cons (se_ix ix_seq s2_ix (se_ix ix_seq s2_ix (mv 2) (mv 11) (fun _ _ => rfl)) (se_int) (fun _ _ => rfl)) (sa_cons (se_ix ix_seq s2_ix (mv 3) (mv 11) (fun _ _ => rfl)) (sa_nil))))) S.nd))
      (ss_cons ((by first | exact sx_setLc (own := [("_law_pattern_here", 12)]) (i := 5) S.nd (si_iter (mv 4)) (blkOk_by (N := ["_law_script", "_law_pool", "_law_rows_here", "_law_tapes", "_law_patterns", "_law_tolds_due", "_law_handed", "_law_due_here", "_law_refused_here", "_law_found", "e", "_law_k", "_law_pattern_here"]) (sc := defScope (top 38)) (by decide +kernel)) (tg_name 12) (fun _ _ _ _ _ => pg_name (i := 12) S.nd rfl (Or.inl rfl)) (fun _ _ _ _ _ => st_nil) (fun _ _ _ _ _ => se_meth0 (k := 104) (mt_cons (MtOf.mono c_One_told (by omega)) (mt_cons (MtOf.mono c_Chain_told (by omega)) (mt_cons (MtOf.mono c_Choice_told (by omega)) (mt_cons (MtOf.mono c_Times_told (by omega)) (mt_cons (MtOf.mono c_Mixed_told (by omega)) (mt_nil)))))) (hr.mono (by omega)) takes0 (mv 12)) | exact sx_set (i := 5) (se_lc (own := [("_law_pattern_here", 12)]) S.nd (si_iter (mv 4)) (blkOk_by (N := ["_law_script", "_law_pool", "_law_rows_here", "_law_tapes", "_law_patterns", "_law_tolds_due", "_law_handed", "_law_due_here", "_law_refused_here", "_law_found", "e", "_law_k", "_law_pattern_here"]) (sc := defScope (top 38)) (by decide +kernel)) (tg_name 12) (fun _ _ _ _ _ => pg_name (i := 12) S.nd rfl (Or.inl rfl)) (fun _ _ _ _ _ => st_nil) (fun _ _ _ _ _ => se_meth0 (k := 104) (mt_cons (MtOf.mono c_One_told (by omega)) (mt_cons (MtOf.mono c_Chain_told (by omega)) (mt_cons (MtOf.mono c_Choice_told (by omega)) (mt_cons (MtOf.mono c_Times_told (by omega)) (mt_cons (MtOf.mono c_Mixed_told (by omega)) (mt_nil)))))) (hr.mono (by omega)) takes0 (mv 12))) S.nd))
      (ss_cons ((by first | exact sx_setLc (own := [("_law_k", 11)]) (i := 6) S.nd (si_range1 T.b_range (se_callB call_len sn_len (by rfl) T.b_len (by decide +kernel) (sa_cons (mv 2) (sa_nil)))) (blkOk_by (N := ["_law_script", "_law_pool", "_law_rows_here", "_law_tapes", "_law_patterns", "_law_tolds_due", "_law_handed", "_law_due_here", "_law_refused_here", "_law_found", "e", "_law_k", "_law_pattern_here"]) (sc := defScope (top 38)) (by decide +kernel)) (tg_name 11) (fun _ _ _ _ _ => pg_name (i := 11) S.nd rfl (Or.inl rfl)) (fun _ _ _ _ _ => st_nil) (fun _ _ _ _ _ => se_tup (sa_cons (se_ix ix_seq s2_ix (se_ix ix_seq s2_ix (mv 2) (mv 11) (fun _ _ => rfl)) (se_int) (fun _ _ => rfl)) (sa_cons (se_ix ix_seq s2_ix (se_ix ix_seq s2_ix (mv 2) (mv 11) (fun _ _ => rfl)) (se_int) (fun _ _ => rfl)) (sa_cons (se_ix ix_seq s2_ix (mv 4) (mv 11) (fun _ _ => rfl)) (sa_nil))))) | exact sx_set (i := 6) (se_lc (own := [("_law_k", 11)]) S.nd (si_range1 T.b_range (se_callB call_len sn_len (by rfl) T.b_len (by decide +kernel) (sa_cons (mv 2) (sa_nil)))) (blkOk_by (N := ["_law_script", "_law_pool", "_law_rows_here", "_law_tapes", "_law_patterns", "_law_tolds_due", "_law_handed", "_law_due_here", "_law_refused_here", "_law_found", "e", "_law_k", "_law_pattern_here"]) (sc := defScope (top 38)) (by decide +kernel)) (tg_name 11) (fun _ _ _ _ _ => pg_name (i := 11) S.nd rfl (Or.inl rfl)) (fun _ _ _ _ _ => st_nil) (fun _ _ _ _ _ => se_tup (sa_cons (se_ix ix_seq s2_ix (se_ix ix_seq s2_ix (mv 2) (mv 11) (fun _ _ => rfl)) (se_int) (fun _ _ => rfl)) (sa_cons (se_ix ix_seq s2_ix (se_ix ix_seq s2_ix (mv 2) (mv 11) (fun _ _ => rfl)) (se_int) (fun _ _ => rfl)) (sa_cons (se_ix ix_seq s2_ix (mv 4) (mv 11) (fun _ _ => rfl)) (sa_nil)))))) S.nd))
      (ss_cons (sx_set (i := 7) (se_callC c__law_due (hr.mono (by omega)) tk (sa_cons (mv 2) (sa_nil))) S.nd)
      (ss_cons (sx_set (i := 8) (se_non) S.nd)
      (ss_cons (sx_set (i := 9) (se_non) S.nd)
      (ss_cons (sx_try (i := 10) (j := 8) T.ex_NoBook tk (fun _ _ _ tk1 => ss_one (sx_set (i := 9) (se_callC c_book_of (hr.mono (by omega)) tk1 (sa_cons (mv 6) (sa_nil))) S.nd)) S.nd)
      (ss_cons (sx_if (st_not (st_val (se_callC c__law_alike (hr.mono (by omega)) tk (sa_cons (mv 6) (sa_cons (mv 2) (sa_cons (mv 5) (sa_nil)))))))
      (ss_one (sx_ret (se_bl)))
      (ss_nil))
      (ss_cons (sx_if (st_cmp op_notN s2_notN (mv 7) (se_non) (nomark _))
      (ss_one (sx_ret (se_and (se_cmp op_notN s2_notN (mv 8) (se_non) (nomark _)) (se_one (se_callC c__law_refused (hr.mono (by omega)) tk (sa_cons (mv 8) (sa_cons (mv 7) (sa_nil))))))))
      (ss_nil))
      (ss_cons (sx_expr (se_bm0 PySem.F.plainAttrs_list PySem.F.slot_list_clear PySem.F.type_list_clear mt_clear sty_list sm_clear (mv 6)))
      (ss_one (sx_ret (se_and (se_cmp op_isN s2_isN (mv 8) (se_non) (nomark _)) (se_and (se_isi (mv 9) T.b_isinstance T.b_tuple (by decide +kernel)) (se_one (se_callC c__law_alike (hr.mono (by omega)) tk (sa_cons (mv 9) (sa_cons (mv 2) (sa_cons (mv 5) (sa_nil))))))))))))))))))))))
end
theorem all_mk {l : PySem.W.OpenLaw} {w : World} {K : PySem.W.Frag} {h : Heap} {mg : Str → Option Value} {fa : Addr} (X : K.In h) (G : h.Ns mainGlobals mg) (hfa : mg "law" = some (.ref fa))
    {f0 : Addr} {od0 an0 : Option Addr} {sl0 : Array (Option Value)} {oc0 kV0 dc0 pm0 cd0 ct0 : Value} {f1 : Addr} {od1 an1 : Option Addr} {sl1 : Array (Option Value)} {oc1 kV1 dc1 pm1 cd1 ct1 : Value} {f2 : Addr} {od2 an2 : Option Addr} {sl2 : Array (Option Value)} {oc2 kV2 dc2 pm2 cd2 ct2 : Value} {f3 : Addr} {od3 an3 : Option Addr} {sl3 : Array (Option Value)} {oc3 kV3 dc3 pm3 cd3 ct3 : Value} {f4 : Addr} {od4 an4 : Option Addr} {sl4 : Array (Option Value)} {oc4 kV4 dc4 pm4 cd4 ct4 : Value} {f5 : Addr} {od5 an5 : Option Addr} {sl5 : Array (Option Value)} {oc5 kV5 dc5 pm5 cd5 ct5 : Value} {f6 : Addr} {od6 an6 : Option Addr} {sl6 : Array (Option Value)} {oc6 kV6 dc6 pm6 cd6 ct6 : Value} {f7 : Addr} {od7 an7 : Option Addr} {sl7 : Array (Option Value)} {oc7 kV7 dc7 pm7 cd7 ct7 : Value} {f8 : Addr} {od8 an8 : Option Addr} {sl8 : Array (Option Value)} {oc8 kV8 dc8 pm8 cd8 ct8 : Value} {f9 : Addr} {od9 an9 : Option Addr} {sl9 : Array (Option Value)} {oc9 kV9 dc9 pm9 cd9 ct9 : Value} {f10 : Addr} {od10 an10 : Option Addr} {sl10 : Array (Option Value)} {oc10 kV10 dc10 pm10 cd10 ct10 : Value} {f11 : Addr} {od11 an11 : Option Addr} {sl11 : Array (Option Value)} {oc11 kV11 dc11 pm11 cd11 ct11 : Value} {f12 : Addr} {od12 an12 : Option Addr} {sl12 : Array (Option Value)} {oc12 kV12 dc12 pm12 cd12 ct12 : Value} {f13 : Addr} {od13 an13 : Option Addr} {sl13 : Array (Option Value)} {oc13 kV13 dc13 pm13 cd13 ct13 : Value} {f14 : Addr} {od14 an14 : Option Addr} {sl14 : Array (Option Value)} {oc14 kV14 dc14 pm14 cd14 ct14 : Value} {f15 : Addr} {od15 an15 : Option Addr} {sl15 : Array (Option Value)} {oc15 kV15 dc15 pm15 cd15 ct15 : Value} {f16 : Addr} {od16 an16 : Option Addr} {sl16 : Array (Option Value)} {oc16 kV16 dc16 pm16 cd16 ct16 : Value} {f17 : Addr} {od17 an17 : Option Addr} {sl17 : Array (Option Value)} {oc17 kV17 dc17 pm17 cd17 ct17 : Value} {f18 : Addr} {od18 an18 : Option Addr} {sl18 : Array (Option Value)} {oc18 kV18 dc18 pm18 cd18 ct18 : Value} {f19 : Addr} {od19 an19 : Option Addr} {sl19 : Array (Option Value)} {oc19 kV19 dc19 pm19 cd19 ct19 : Value} {f20 : Addr} {od20 an20 : Option Addr} {sl20 : Array (Option Value)} {oc20 kV20 dc20 pm20 cd20 ct20 : Value} {f21 : Addr} {od21 an21 : Option Addr} {sl21 : Array (Option Value)} {oc21 kV21 dc21 pm21 cd21 ct21 : Value} {f22 : Addr} {od22 an22 : Option Addr} {sl22 : Array (Option Value)} {oc22 kV22 dc22 pm22 cd22 ct22 : Value} {f23 : Addr} {od23 an23 : Option Addr} {sl23 : Array (Option Value)} {oc23 kV23 dc23 pm23 cd23 ct23 : Value} {f24 : Addr} {od24 an24 : Option Addr} {sl24 : Array (Option Value)} {oc24 kV24 dc24 pm24 cd24 ct24 : Value} {f25 : Addr} {od25 an25 : Option Addr} {sl25 : Array (Option Value)} {oc25 kV25 dc25 pm25 cd25 ct25 : Value} {f26 : Addr} {od26 an26 : Option Addr} {sl26 : Array (Option Value)} {oc26 kV26 dc26 pm26 cd26 ct26 : Value} {f27 : Addr} {od27 an27 : Option Addr} {sl27 : Array (Option Value)} {oc27 kV27 dc27 pm27 cd27 ct27 : Value} {f28 : Addr} {od28 an28 : Option Addr} {sl28 : Array (Option Value)} {oc28 kV28 dc28 pm28 cd28 ct28 : Value} {f29 : Addr} {od29 an29 : Option Addr} {sl29 : Array (Option Value)} {oc29 kV29 dc29 pm29 cd29 ct29 : Value} {f30 : Addr} {od30 an30 : Option Addr} {sl30 : Array (Option Value)} {oc30 kV30 dc30 pm30 cd30 ct30 : Value} {f31 : Addr} {od31 an31 : Option Addr} {sl31 : Array (Option Value)} {oc31 kV31 dc31 pm31 cd31 ct31 : Value} {f32 : Addr} {od32 an32 : Option Addr} {sl32 : Array (Option Value)} {oc32 kV32 dc32 pm32 cd32 ct32 : Value} {f33 : Addr} {od33 an33 : Option Addr} {sl33 : Array (Option Value)} {oc33 kV33 dc33 pm33 cd33 ct33 : Value} {f34 : Addr} {od34 an34 : Option Addr} {sl34 : Array (Option Value)} {oc34 kV34 dc34 pm34 cd34 ct34 : Value} {f35 : Addr} {od35 an35 : Option Addr} {sl35 : Array (Option Value)} {oc35 kV35 dc35 pm35 cd35 ct35 : Value} {f36 : Addr} {od36 an36 : Option Addr} {sl36 : Array (Option Value)} {oc36 kV36 dc36 pm36 cd36 ct36 : Value} {C7 : Addr} {C9 : Addr} {C12 : Addr} {C13 : Addr} {C14 : Addr} {C15 : Addr} {C16 : Addr} {C19 : Addr} {C21 : Addr} {T23 : Addr} {oT23 : Obj} {nT23 : Nat} {tT23_0 : Tok} {C24 : Addr} {C27 : Addr} {C28 : Addr} {C29 : Addr} {C30 : Addr} {C31 : Addr} {tz_RULES : Tok} {C_NoBook fI_NoBook : Addr} {oc_NoBook kV_NoBook dc_NoBook pm_NoBook cd_NoBook ct_NoBook : Value} {od_NoBook an_NoBook : Option Addr} {sl_NoBook : Array (Option Value)}
    (a0 : PySem.W.nsIn K mainGlobals "_law_names" = some (some (.ref f0)))
    (l0 : K.lookup f0 = some ⟨oc0, od0, .func (PySem.W.fnOf "_law_names" "_law_names" (defArgs (top 32)) (defBody (top 32)) (defScope (top 32)) .none kV0 dc0 pm0 an0 cd0 ct0), sl0⟩) (e0 : PySem.W.codeIn K cd0 "_law_names" = true) (k0 : PySem.W.keepIn K (.ref f0) = true)
    (a1 : PySem.W.nsIn K mainGlobals "_law_cell_at" = some (some (.ref f1)))
    (l1 : K.lookup f1 = some ⟨oc1, od1, .func (PySem.W.fnOf "_law_cell_at" "_law_cell_at" (defArgs (top 28)) (defBody (top 28)) (defScope (top 28)) .none kV1 dc1 pm1 an1 cd1 ct1), sl1⟩) (e1 : PySem.W.codeIn K cd1 "_law_cell_at" = true) (k1 : PySem.W.keepIn K (.ref f1) = true)
    (a2 : PySem.W.nsIn K mainGlobals "_law_mix" = some (some (.ref f2)))
    (l2 : K.lookup f2 = some ⟨oc2, od2, .func (PySem.W.fnOf "_law_mix" "_law_mix" (defArgs (top 29)) (defBody (top 29)) (defScope (top 29)) .none kV2 dc2 pm2 an2 cd2 ct2), sl2⟩) (e2 : PySem.W.codeIn K cd2 "_law_mix" = true) (k2 : PySem.W.keepIn K (.ref f2) = true)
    (a3 : PySem.W.nsIn K mainGlobals "_law_tape" = some (some (.ref f3)))
    (l3 : K.lookup f3 = some ⟨oc3, od3, .func (PySem.W.fnOf "_law_tape" "_law_tape" (defArgs (top 30)) (defBody (top 30)) (defScope (top 30)) .none kV3 dc3 pm3 an3 cd3 ct3), sl3⟩) (e3 : PySem.W.codeIn K cd3 "_law_tape" = true) (k3 : PySem.W.keepIn K (.ref f3) = true)
    (a4 : PySem.W.nsIn K mainGlobals "_law_next" = some (some (.ref f4)))
    (l4 : K.lookup f4 = some ⟨oc4, od4, .func (PySem.W.fnOf "_law_next" "_law_next" (defArgs (top 31)) (defBody (top 31)) (defScope (top 31)) .none kV4 dc4 pm4 an4 cd4 ct4), sl4⟩) (e4 : PySem.W.codeIn K cd4 "_law_next" = true) (k4 : PySem.W.keepIn K (.ref f4) = true)
    (a5 : PySem.W.nsIn K mainGlobals "_law_rows" = some (some (.ref f5)))
    (l5 : K.lookup f5 = some ⟨oc5, od5, .func (PySem.W.fnOf "_law_rows" "_law_rows" (defArgs (top 34)) (defBody (top 34)) (defScope (top 34)) .none kV5 dc5 pm5 an5 cd5 ct5), sl5⟩) (e5 : PySem.W.codeIn K cd5 "_law_rows" = true) (k5 : PySem.W.keepIn K (.ref f5) = true)
    (a6 : PySem.W.nsIn K mainGlobals "_law_due" = some (some (.ref f6)))
    (l6 : K.lookup f6 = some ⟨oc6, od6, .func (PySem.W.fnOf "_law_due" "_law_due" (defArgs (top 35)) (defBody (top 35)) (defScope (top 35)) .none kV6 dc6 pm6 an6 cd6 ct6), sl6⟩) (e6 : PySem.W.codeIn K cd6 "_law_due" = true) (k6 : PySem.W.keepIn K (.ref f6) = true)
    (ca7 : PySem.W.nsIn K mainGlobals "Chain" = some (some (.ref C7)))
    (cm7 : PySem.W.makesIn K C7 = true) (ck7 : PySem.W.keepIn K (.ref C7) = true)
    (a7 : PySem.W.findIn K (.ref C7) "__init__" = some (some (.ref f7))) (cn7 : PySem.W.isFn K (.ref f7) = true)
    (l7 : K.lookup f7 = some ⟨oc7, od7, .func (PySem.W.fnOf "__init__" "Chain.__init__" (defArgs (inner (top 13) 0)) (defBody (inner (top 13) 0)) (defScope (inner (top 13) 0)) .none kV7 dc7 pm7 an7 cd7 ct7), sl7⟩) (e7 : PySem.W.codeIn K cd7 "Chain.__init__" = true) (k7 : PySem.W.keepIn K (.ref f7) = true)
    (a8 : PySem.W.nsIn K mainGlobals "chain" = some (some (.ref f8)))
    (l8 : K.lookup f8 = some ⟨oc8, od8, .func (PySem.W.fnOf "chain" "chain" (defArgs (top 23)) (defBody (top 23)) (defScope (top 23)) .none kV8 dc8 pm8 an8 cd8 ct8), sl8⟩) (e8 : PySem.W.codeIn K cd8 "chain" = true) (k8 : PySem.W.keepIn K (.ref f8) = true)
    (ca9 : PySem.W.nsIn K mainGlobals "One" = some (some (.ref C9)))
    (cm9 : PySem.W.makesIn K C9 = true) (ck9 : PySem.W.keepIn K (.ref C9) = true)
    (a9 : PySem.W.findIn K (.ref C9) "__init__" = some (some (.ref f9))) (cn9 : PySem.W.isFn K (.ref f9) = true)
    (l9 : K.lookup f9 = some ⟨oc9, od9, .func (PySem.W.fnOf "__init__" "One.__init__" (defArgs (inner (top 12) 0)) (defBody (inner (top 12) 0)) (defScope (inner (top 12) 0)) .none kV9 dc9 pm9 an9 cd9 ct9), sl9⟩) (e9 : PySem.W.codeIn K cd9 "One.__init__" = true) (k9 : PySem.W.keepIn K (.ref f9) = true)
    (a10 : PySem.W.nsIn K mainGlobals "one" = some (some (.ref f10)))
    (l10 : K.lookup f10 = some ⟨oc10, od10, .func (PySem.W.fnOf "one" "one" (defArgs (top 22)) (defBody (top 22)) (defScope (top 22)) .none kV10 dc10 pm10 an10 cd10 ct10), sl10⟩) (e10 : PySem.W.codeIn K cd10 "one" = true) (k10 : PySem.W.keepIn K (.ref f10) = true)
    (a11 : PySem.W.nsIn K mainGlobals "penned" = some (some (.ref f11)))
    (l11 : K.lookup f11 = some ⟨oc11, od11, .func (PySem.W.fnOf "penned" "penned" (defArgs (top 19)) (defBody (top 19)) (defScope (top 19)) .none kV11 dc11 pm11 an11 cd11 ct11), sl11⟩) (e11 : PySem.W.codeIn K cd11 "penned" = true) (k11 : PySem.W.keepIn K (.ref f11) = true)
    (ca12 : PySem.W.nsIn K mainGlobals "One" = some (some (.ref C12)))
    (zf_cb12 : clsB K C12 = true)
    (a12 : PySem.W.findIn K (.ref C12) "told" = some (some (.ref f12))) (cn12 : PySem.W.isFn K (.ref f12) = true)
    (l12 : K.lookup f12 = some ⟨oc12, od12, .func (PySem.W.fnOf "told" "One.told" (defArgs (inner (top 12) 1)) (defBody (inner (top 12) 1)) (defScope (inner (top 12) 1)) .none kV12 dc12 pm12 an12 cd12 ct12), sl12⟩) (e12 : PySem.W.codeIn K cd12 "One.told" = true) (k12 : PySem.W.keepIn K (.ref f12) = true)
    (ca13 : PySem.W.nsIn K mainGlobals "Chain" = some (some (.ref C13)))
    (zf_cb13 : clsB K C13 = true)
    (a13 : PySem.W.findIn K (.ref C13) "told" = some (some (.ref f13))) (cn13 : PySem.W.isFn K (.ref f13) = true)
    (l13 : K.lookup f13 = some ⟨oc13, od13, .func (PySem.W.fnOf "told" "Chain.told" (defArgs (inner (top 13) 1)) (defBody (inner (top 13) 1)) (defScope (inner (top 13) 1)) .none kV13 dc13 pm13 an13 cd13 ct13), sl13⟩) (e13 : PySem.W.codeIn K cd13 "Chain.told" = true) (k13 : PySem.W.keepIn K (.ref f13) = true)
    (ca14 : PySem.W.nsIn K mainGlobals "Choice" = some (some (.ref C14)))
    (zf_cb14 : clsB K C14 = true)
    (a14 : PySem.W.findIn K (.ref C14) "told" = some (some (.ref f14))) (cn14 : PySem.W.isFn K (.ref f14) = true)
    (l14 : K.lookup f14 = some ⟨oc14, od14, .func (PySem.W.fnOf "told" "Choice.told" (defArgs (inner (top 14) 1)) (defBody (inner (top 14) 1)) (defScope (inner (top 14) 1)) .none kV14 dc14 pm14 an14 cd14 ct14), sl14⟩) (e14 : PySem.W.codeIn K cd14 "Choice.told" = true) (k14 : PySem.W.keepIn K (.ref f14) = true)
    (ca15 : PySem.W.nsIn K mainGlobals "Mixed" = some (some (.ref C15)))
    (zf_cb15 : clsB K C15 = true)
    (a15 : PySem.W.findIn K (.ref C15) "told" = some (some (.ref f15))) (cn15 : PySem.W.isFn K (.ref f15) = true)
    (l15 : K.lookup f15 = some ⟨oc15, od15, .func (PySem.W.fnOf "told" "Mixed.told" (defArgs (inner (top 16) 1)) (defBody (inner (top 16) 1)) (defScope (inner (top 16) 1)) .none kV15 dc15 pm15 an15 cd15 ct15), sl15⟩) (e15 : PySem.W.codeIn K cd15 "Mixed.told" = true) (k15 : PySem.W.keepIn K (.ref f15) = true)
    (ca16 : PySem.W.nsIn K mainGlobals "Times" = some (some (.ref C16)))
    (zf_cb16 : clsB K C16 = true)
    (a16 : PySem.W.findIn K (.ref C16) "told" = some (some (.ref f16))) (cn16 : PySem.W.isFn K (.ref f16) = true)
    (l16 : K.lookup f16 = some ⟨oc16, od16, .func (PySem.W.fnOf "told" "Times.told" (defArgs (inner (top 15) 1)) (defBody (inner (top 15) 1)) (defScope (inner (top 15) 1)) .none kV16 dc16 pm16 an16 cd16 ct16), sl16⟩) (e16 : PySem.W.codeIn K cd16 "Times.told" = true) (k16 : PySem.W.keepIn K (.ref f16) = true)
    (a17 : PySem.W.nsIn K mainGlobals "tolds" = some (some (.ref f17)))
    (l17 : K.lookup f17 = some ⟨oc17, od17, .func (PySem.W.fnOf "tolds" "tolds" (defArgs (top 17)) (defBody (top 17)) (defScope (top 17)) .none kV17 dc17 pm17 an17 cd17 ct17), sl17⟩) (e17 : PySem.W.codeIn K cd17 "tolds" = true) (k17 : PySem.W.keepIn K (.ref f17) = true)
    (a18 : PySem.W.nsIn K mainGlobals "each_once" = some (some (.ref f18)))
    (l18 : K.lookup f18 = some ⟨oc18, od18, .func (PySem.W.fnOf "each_once" "each_once" (defArgs (top 20)) (defBody (top 20)) (defScope (top 20)) .none kV18 dc18 pm18 an18 cd18 ct18), sl18⟩) (e18 : PySem.W.codeIn K cd18 "each_once" = true) (k18 : PySem.W.keepIn K (.ref f18) = true)
    (ca19 : PySem.W.nsIn K mainGlobals "Choice" = some (some (.ref C19)))
    (cm19 : PySem.W.makesIn K C19 = true) (ck19 : PySem.W.keepIn K (.ref C19) = true)
    (a19 : PySem.W.findIn K (.ref C19) "__init__" = some (some (.ref f19))) (cn19 : PySem.W.isFn K (.ref f19) = true)
    (l19 : K.lookup f19 = some ⟨oc19, od19, .func (PySem.W.fnOf "__init__" "Choice.__init__" (defArgs (inner (top 14) 0)) (defBody (inner (top 14) 0)) (defScope (inner (top 14) 0)) .none kV19 dc19 pm19 an19 cd19 ct19), sl19⟩) (e19 : PySem.W.codeIn K cd19 "Choice.__init__" = true) (k19 : PySem.W.keepIn K (.ref f19) = true)
    (a20 : PySem.W.nsIn K mainGlobals "choice" = some (some (.ref f20)))
    (l20 : K.lookup f20 = some ⟨oc20, od20, .func (PySem.W.fnOf "choice" "choice" (defArgs (top 24)) (defBody (top 24)) (defScope (top 24)) .none kV20 dc20 pm20 an20 cd20 ct20), sl20⟩) (e20 : PySem.W.codeIn K cd20 "choice" = true) (k20 : PySem.W.keepIn K (.ref f20) = true)
    (ca21 : PySem.W.nsIn K mainGlobals "Times" = some (some (.ref C21)))
    (cm21 : PySem.W.makesIn K C21 = true) (ck21 : PySem.W.keepIn K (.ref C21) = true)
    (a21 : PySem.W.findIn K (.ref C21) "__init__" = some (some (.ref f21))) (cn21 : PySem.W.isFn K (.ref f21) = true)
    (l21 : K.lookup f21 = some ⟨oc21, od21, .func (PySem.W.fnOf "__init__" "Times.__init__" (defArgs (inner (top 15) 0)) (defBody (inner (top 15) 0)) (defScope (inner (top 15) 0)) .none kV21 dc21 pm21 an21 cd21 ct21), sl21⟩) (e21 : PySem.W.codeIn K cd21 "Times.__init__" = true) (k21 : PySem.W.keepIn K (.ref f21) = true)
    (a22 : PySem.W.nsIn K mainGlobals "is_empty" = some (some (.ref f22)))
    (l22 : K.lookup f22 = some ⟨oc22, od22, .func (PySem.W.fnOf "is_empty" "is_empty" (defArgs (top 21)) (defBody (top 21)) (defScope (top 21)) .none kV22 dc22 pm22 an22 cd22 ct22), sl22⟩) (e22 : PySem.W.codeIn K cd22 "is_empty" = true) (k22 : PySem.W.keepIn K (.ref f22) = true)
    (a23 : PySem.W.nsIn K mainGlobals "times" = some (some (.ref f23)))
    (l23 : K.lookup f23 = some ⟨oc23, od23, .func (PySem.W.fnOf "times" "times" (defArgs (top 25)) (defBody (top 25)) (defScope (top 25)) (.ref T23) kV23 dc23 pm23 an23 cd23 ct23), sl23⟩) (e23 : PySem.W.codeIn K cd23 "times" = true) (k23 : PySem.W.keepIn K (.ref f23) = true)
    (lT23 : K.lookup T23 = some oT23) (dT23 : oT23.data = .seq #[.int 0 tT23_0, .none] nT23)
    (ca24 : PySem.W.nsIn K mainGlobals "Mixed" = some (some (.ref C24)))
    (cm24 : PySem.W.makesIn K C24 = true) (ck24 : PySem.W.keepIn K (.ref C24) = true)
    (a24 : PySem.W.findIn K (.ref C24) "__init__" = some (some (.ref f24))) (cn24 : PySem.W.isFn K (.ref f24) = true)
    (l24 : K.lookup f24 = some ⟨oc24, od24, .func (PySem.W.fnOf "__init__" "Mixed.__init__" (defArgs (inner (top 16) 0)) (defBody (inner (top 16) 0)) (defScope (inner (top 16) 0)) .none kV24 dc24 pm24 an24 cd24 ct24), sl24⟩) (e24 : PySem.W.codeIn K cd24 "Mixed.__init__" = true) (k24 : PySem.W.keepIn K (.ref f24) = true)
    (a25 : PySem.W.nsIn K mainGlobals "mixed" = some (some (.ref f25)))
    (l25 : K.lookup f25 = some ⟨oc25, od25, .func (PySem.W.fnOf "mixed" "mixed" (defArgs (top 26)) (defBody (top 26)) (defScope (top 26)) .none kV25 dc25 pm25 an25 cd25 ct25), sl25⟩) (e25 : PySem.W.codeIn K cd25 "mixed" = true) (k25 : PySem.W.keepIn K (.ref f25) = true)
    (a26 : PySem.W.nsIn K mainGlobals "_law_pattern" = some (some (.ref f26)))
    (l26 : K.lookup f26 = some ⟨oc26, od26, .func (PySem.W.fnOf "_law_pattern" "_law_pattern" (defArgs (top 33)) (defBody (top 33)) (defScope (top 33)) .none kV26 dc26 pm26 an26 cd26 ct26), sl26⟩) (e26 : PySem.W.codeIn K cd26 "_law_pattern" = true) (k26 : PySem.W.keepIn K (.ref f26) = true)
    (ca27 : PySem.W.nsIn K mainGlobals "One" = some (some (.ref C27)))
    (zf_cb27 : clsB K C27 = true)
    (a27 : PySem.W.findIn K (.ref C27) "speaks" = some (some (.ref f27))) (cn27 : PySem.W.isFn K (.ref f27) = true)
    (l27 : K.lookup f27 = some ⟨oc27, od27, .func (PySem.W.fnOf "speaks" "One.speaks" (defArgs (inner (top 12) 4)) (defBody (inner (top 12) 4)) (defScope (inner (top 12) 4)) .none kV27 dc27 pm27 an27 cd27 ct27), sl27⟩) (e27 : PySem.W.codeIn K cd27 "One.speaks" = true) (k27 : PySem.W.keepIn K (.ref f27) = true)
    (ca28 : PySem.W.nsIn K mainGlobals "Chain" = some (some (.ref C28)))
    (zf_cb28 : clsB K C28 = true)
    (a28 : PySem.W.findIn K (.ref C28) "speaks" = some (some (.ref f28))) (cn28 : PySem.W.isFn K (.ref f28) = true)
    (l28 : K.lookup f28 = some ⟨oc28, od28, .func (PySem.W.fnOf "speaks" "Chain.speaks" (defArgs (inner (top 13) 4)) (defBody (inner (top 13) 4)) (defScope (inner (top 13) 4)) .none kV28 dc28 pm28 an28 cd28 ct28), sl28⟩) (e28 : PySem.W.codeIn K cd28 "Chain.speaks" = true) (k28 : PySem.W.keepIn K (.ref f28) = true)
    (ca29 : PySem.W.nsIn K mainGlobals "Choice" = some (some (.ref C29)))
    (zf_cb29 : clsB K C29 = true)
    (a29 : PySem.W.findIn K (.ref C29) "speaks" = some (some (.ref f29))) (cn29 : PySem.W.isFn K (.ref f29) = true)
    (l29 : K.lookup f29 = some ⟨oc29, od29, .func (PySem.W.fnOf "speaks" "Choice.speaks" (defArgs (inner (top 14) 4)) (defBody (inner (top 14) 4)) (defScope (inner (top 14) 4)) .none kV29 dc29 pm29 an29 cd29 ct29), sl29⟩) (e29 : PySem.W.codeIn K cd29 "Choice.speaks" = true) (k29 : PySem.W.keepIn K (.ref f29) = true)
    (ca30 : PySem.W.nsIn K mainGlobals "Mixed" = some (some (.ref C30)))
    (zf_cb30 : clsB K C30 = true)
    (a30 : PySem.W.findIn K (.ref C30) "speaks" = some (some (.ref f30))) (cn30 : PySem.W.isFn K (.ref f30) = true)
    (l30 : K.lookup f30 = some ⟨oc30, od30, .func (PySem.W.fnOf "speaks" "Mixed.speaks" (defArgs (inner (top 16) 4)) (defBody (inner (top 16) 4)) (defScope (inner (top 16) 4)) .none kV30 dc30 pm30 an30 cd30 ct30), sl30⟩) (e30 : PySem.W.codeIn K cd30 "Mixed.speaks" = true) (k30 : PySem.W.keepIn K (.ref f30) = true)
    (ca31 : PySem.W.nsIn K mainGlobals "Times" = some (some (.ref C31)))
    (zf_cb31 : clsB K C31 = true)
    (a31 : PySem.W.findIn K (.ref C31) "speaks" = some (some (.ref f31))) (cn31 : PySem.W.isFn K (.ref f31) = true)
    (l31 : K.lookup f31 = some ⟨oc31, od31, .func (PySem.W.fnOf "speaks" "Times.speaks" (defArgs (inner (top 15) 4)) (defBody (inner (top 15) 4)) (defScope (inner (top 15) 4)) .none kV31 dc31 pm31 an31 cd31 ct31), sl31⟩) (e31 : PySem.W.codeIn K cd31 "Times.speaks" = true) (k31 : PySem.W.keepIn K (.ref f31) = true)
    (a32 : PySem.W.nsIn K mainGlobals "all_spoken" = some (some (.ref f32)))
    (l32 : K.lookup f32 = some ⟨oc32, od32, .func (PySem.W.fnOf "all_spoken" "all_spoken" (defArgs (top 18)) (defBody (top 18)) (defScope (top 18)) .none kV32 dc32 pm32 an32 cd32 ct32), sl32⟩) (e32 : PySem.W.codeIn K cd32 "all_spoken" = true) (k32 : PySem.W.keepIn K (.ref f32) = true)
    (a33 : PySem.W.nsIn K mainGlobals "book_of" = some (some (.ref f33)))
    (l33 : K.lookup f33 = some ⟨oc33, od33, .func (PySem.W.fnOf "book_of" "book_of" (defArgs (top 9)) (defBody (top 9)) (defScope (top 9)) .none kV33 dc33 pm33 an33 cd33 ct33), sl33⟩) (e33 : PySem.W.codeIn K cd33 "book_of" = true) (k33 : PySem.W.keepIn K (.ref f33) = true)
    (a34 : PySem.W.nsIn K mainGlobals "_law_alike" = some (some (.ref f34)))
    (l34 : K.lookup f34 = some ⟨oc34, od34, .func (PySem.W.fnOf "_law_alike" "_law_alike" (defArgs (top 36)) (defBody (top 36)) (defScope (top 36)) .none kV34 dc34 pm34 an34 cd34 ct34), sl34⟩) (e34 : PySem.W.codeIn K cd34 "_law_alike" = true) (k34 : PySem.W.keepIn K (.ref f34) = true)
    (a35 : PySem.W.nsIn K mainGlobals "_law_refused" = some (some (.ref f35)))
    (l35 : K.lookup f35 = some ⟨oc35, od35, .func (PySem.W.fnOf "_law_refused" "_law_refused" (defArgs (top 37)) (defBody (top 37)) (defScope (top 37)) .none kV35 dc35 pm35 an35 cd35 ct35), sl35⟩) (e35 : PySem.W.codeIn K cd35 "_law_refused" = true) (k35 : PySem.W.keepIn K (.ref f35) = true)
    (a36 : PySem.W.nsIn K mainGlobals "law" = some (some (.ref f36)))
    (l36 : K.lookup f36 = some ⟨oc36, od36, .func (PySem.W.fnOf "law" "law" (defArgs (top 38)) (defBody (top 38)) (defScope (top 38)) .none kV36 dc36 pm36 an36 cd36 ct36), sl36⟩) (e36 : PySem.W.codeIn K cd36 "law" = true) (k36 : PySem.W.keepIn K (.ref f36) = true)
    (zb_ValueError : PySem.W.nsIn K mainGlobals "ValueError" = some none)
    (zb_bool : PySem.W.nsIn K mainGlobals "bool" = some none)
    (zb_int : PySem.W.nsIn K mainGlobals "int" = some none)
    (zb_isinstance : PySem.W.nsIn K mainGlobals "isinstance" = some none)
    (zb_len : PySem.W.nsIn K mainGlobals "len" = some none)
    (zb_list : PySem.W.nsIn K mainGlobals "list" = some none)
    (zb_min : PySem.W.nsIn K mainGlobals "min" = some none)
    (zb_range : PySem.W.nsIn K mainGlobals "range" = some none)
    (zb_sorted : PySem.W.nsIn K mainGlobals "sorted" = some none)
    (zb_str : PySem.W.nsIn K mainGlobals "str" = some none)
    (zb_tuple : PySem.W.nsIn K mainGlobals "tuple" = some none)
    (zg_RULES : PySem.W.nsIn K mainGlobals "RULES" = some (some (.int (8) tz_RULES)))
    (zf_ct_form : ctB K "form" [(Str.ofString "One")] = true)
    (zf_ct_high : ctB K "high" [(Str.ofString "Times")] = true)
    (zf_ct_low : ctB K "low" [(Str.ofString "Times")] = true)
    (zf_ct_part : ctB K "part" [(Str.ofString "Times")] = true)
    (zf_ct_parts : ctB K "parts" [(Str.ofString "Chain"), (Str.ofString "Choice"), (Str.ofString "Mixed")] = true)
    (zf_ex_NoBook : exTB K "NoBook" [((Str.ofString "NoBook"), true), ((Str.ofString "NoPattern"), false)] = true)
    (zf_fl_row : flTB K "row" [(Str.ofString "NoBook")] = true)
    (zf_ic_Chain : isCB K "Chain" [((Str.ofString "One"), false), ((Str.ofString "Chain"), true), ((Str.ofString "Choice"), false), ((Str.ofString "Times"), false), ((Str.ofString "Mixed"), false)] = true)
    (zf_ic_Choice : isCB K "Choice" [((Str.ofString "One"), false), ((Str.ofString "Chain"), false), ((Str.ofString "Choice"), true), ((Str.ofString "Times"), false), ((Str.ofString "Mixed"), false)] = true)
    (zf_ic_Mixed : isCB K "Mixed" [((Str.ofString "One"), false), ((Str.ofString "Chain"), false), ((Str.ofString "Choice"), false), ((Str.ofString "Times"), false), ((Str.ofString "Mixed"), true)] = true)
    (zf_is_GraftError : isTB K "GraftError" [((Str.ofString "NoBook"), true), ((Str.ofString "NoPattern"), true)] = true)
    (zf_is_NoForm_NoPattern_NoTurner : isTsB K [(Str.ofString "NoForm"), (Str.ofString "NoPattern"), (Str.ofString "NoTurner")] [((Str.ofString "NoBook"), false), ((Str.ofString "NoPattern"), true)] = true)
    (zf_is_ValueError : isBB K "ValueError" [((Str.ofString "NoBook"), true), ((Str.ofString "NoPattern"), true)] = true)
    (zf_r_NoPattern : x0B K "NoPattern" = true)
    (xa_NoBook : PySem.W.nsIn K mainGlobals "NoBook" = some (some (.ref C_NoBook))) (xc_NoBook : oexB K C_NoBook = true) (xi_NoBook : PySem.W.findIn K (.ref C_NoBook) "__init__" = some (some (.ref fI_NoBook))) (xt_NoBook : PySem.W.typeIn K (.ref fI_NoBook) = some (.type "function")) (xn_NoBook : PySem.W.findIn K (.ref C_NoBook) "row" = some none)
    (xl_NoBook : K.lookup fI_NoBook = some ⟨oc_NoBook, od_NoBook, .func (PySem.W.fnOf "__init__" "NoBook.__init__" (defArgs (inner (top 5) 0)) (defBody (inner (top 5) 0)) (defScope (inner (top 5) 0)) .none kV_NoBook dc_NoBook pm_NoBook an_NoBook cd_NoBook ct_NoBook), sl_NoBook⟩) (xe_NoBook : PySem.W.codeIn K cd_NoBook "NoBook.__init__" = true) (xk_NoBook : PySem.W.keepIn K (.ref fI_NoBook) = true) :
    ∃ fd : FuncData, (∀ (s : Shared) (v : Value), BindsTo s fd ⟨[v], []⟩ [("_law_script", v)]) ∧ ∀ base : Heap, K.In base → base.Ns mainGlobals mg → FnOk l.prog w K mg base (L2.CX l.prog w) 105 fa fd ["_law_script"] (spM (gOf w K) m_law_afabe) := by
  have T : Txt K mg := ⟨PySem.W.mg_none_of X G zb_ValueError, PySem.W.mg_none_of X G zb_bool, PySem.W.mg_none_of X G zb_int, PySem.W.mg_none_of X G zb_isinstance, PySem.W.mg_none_of X G zb_len, PySem.W.mg_none_of X G zb_list, PySem.W.mg_none_of X G zb_min, PySem.W.mg_none_of X G zb_range, PySem.W.mg_none_of X G zb_sorted, PySem.W.mg_none_of X G zb_str, PySem.W.mg_none_of X G zb_tuple, ⟨_, PySem.W.mg_of X G zg_RULES⟩, ctB_ok zf_ct_form, ctB_ok zf_ct_high, ctB_ok zf_ct_low, ctB_ok zf_ct_part, ctB_ok zf_ct_parts, exTB_ok X G zf_ex_NoBook, flTB_ok zf_fl_row, isCB_ok X G zf_ic_Chain, isCB_ok X G zf_ic_Choice, isCB_ok X G zf_ic_Mixed, isTB_ok X G zf_is_GraftError, isTsB_ok X G zf_is_NoForm_NoPattern_NoTurner, isBB_ok zf_is_ValueError, x0B_ok X G zf_r_NoPattern⟩
  have xi_NoBook : ∀ base : Heap, XI l.prog w K mg base "NoBook" "row" := fun base => xi_mk (f := "row") X G xa_NoBook (oexB_ok xc_NoBook) xi_NoBook xt_NoBook xn_NoBook xl_NoBook xe_NoBook xk_NoBook sc_init_NoBook (fun _ F cdv A outer s H E => pss_one (ps_ost (pv 0) (pv 1))) (fun _ _ _ _ _ _ us hl => match us, hl with | [_, _], _ => rfl)
  have d0 : Df K mg "_law_names" (top 32) ["_law_cell"] := df_mk X G a0 l0 e0 k0 fun _ _ _ _ _ _ us hl => match us, hl with | [_], _ => rfl
  have c0 : ∀ base : Heap, Cal l.prog w K mg base "_law_names" 1 (m_names_c11ae) := fun base => sim__law_names T d0
  have d1 : Df K mg "_law_cell_at" (top 28) ["_law_script", "_law_k"] := df_mk X G a1 l1 e1 k1 fun _ _ _ _ _ _ us hl => match us, hl with | [_, _], _ => rfl
  have c1 : ∀ base : Heap, Cal l.prog w K mg base "_law_cell_at" 1 (m_cell_at_2c4cb) := fun base => sim__law_cell_at T d1
  have d2 : Df K mg "_law_mix" (top 29) ["_law_number", "_law_k"] := df_mk X G a2 l2 e2 k2 fun _ _ _ _ _ _ us hl => match us, hl with | [_, _], _ => rfl
  have c2 : ∀ base : Heap, Cal l.prog w K mg base "_law_mix" 1 (m_mix_1b9e1) := fun base => sim__law_mix T d2
  have d3 : Df K mg "_law_tape" (top 30) ["_law_cell", "_law_many"] := df_mk X G a3 l3 e3 k3 fun _ _ _ _ _ _ us hl => match us, hl with | [_, _], _ => rfl
  have c3 : ∀ base : Heap, Cal l.prog w K mg base "_law_tape" 2 (m_tape_92891) := fun base => sim__law_tape T d3 (c2 base)
  have d4 : Df K mg "_law_next" (top 31) ["_law_tape_here", "_law_many"] := df_mk X G a4 l4 e4 k4 fun _ _ _ _ _ _ us hl => match us, hl with | [_, _], _ => rfl
  have c4 : ∀ base : Heap, Cal l.prog w K mg base "_law_next" 1 (m_next_fea17) := fun base => sim__law_next T d4
  have d5 : Df K mg "_law_rows" (top 34) ["_law_script", "_law_pool"] := df_mk X G a5 l5 e5 k5 fun _ _ _ _ _ _ us hl => match us, hl with | [_, _], _ => rfl
  have c5 : ∀ base : Heap, Cal l.prog w K mg base "_law_rows" 3 (m_rows_cc517) := fun base => sim__law_rows T d5 (c1 base) (c3 base) (c4 base)
  have d6 : Df K mg "_law_due" (top 35) ["_law_rows_here"] := df_mk X G a6 l6 e6 k6 fun _ _ _ _ _ _ us hl => match us, hl with | [_], _ => rfl
  have c6 : ∀ base : Heap, Cal l.prog w K mg base "_law_due" 1 (m_due_40573) := fun base => sim__law_due T d6
  have d7 : Di K mg "Chain" "Chain.__init__" (inner (top 13) 0) ["self", "parts"] := di_mk X G ca7 cm7 a7 cn7 ck7 l7 e7 k7 fun _ _ _ _ _ _ us hl => match us, hl with | [_, _], _ => rfl
  have c7 : ∀ base : Heap, MkOf l.prog w K mg base "Chain" 1 (m_Chain___init___9e3a3) := fun base => sim_Chain___init__ T d7
  have d8 : Df K mg "chain" (top 23) ["parts"] := df_mk X G a8 l8 e8 k8 fun _ _ _ _ _ _ us hl => match us, hl with | [_], _ => rfl
  have c8 : ∀ base : Heap, Cal l.prog w K mg base "chain" 3 (m_chain_974c3) := fun base => sim_chain T d8 (c7 base)
  have d9 : Di K mg "One" "One.__init__" (inner (top 12) 0) ["self", "form"] := di_mk X G ca9 cm9 a9 cn9 ck9 l9 e9 k9 fun _ _ _ _ _ _ us hl => match us, hl with | [_, _], _ => rfl
  have c9 : ∀ base : Heap, MkOf l.prog w K mg base "One" 1 (m_One___init___d241d) := fun base => sim_One___init__ T d9
  have d10 : Df K mg "one" (top 22) ["form"] := df_mk X G a10 l10 e10 k10 fun _ _ _ _ _ _ us hl => match us, hl with | [_], _ => rfl
  have c10 : ∀ base : Heap, Cal l.prog w K mg base "one" 3 (m_one_dbedc) := fun base => sim_one T d10 (c9 base)
  have d11 : Df K mg "penned" (top 19) ["told"] := df_mk X G a11 l11 e11 k11 fun _ _ _ _ _ _ us hl => match us, hl with | [_], _ => rfl
  have c11 : ∀ base : Heap, Cal l.prog w K mg base "penned" 101 (m_penned_48f09 100) := fun base => sim_penned T d11 100
  have d12 : Dm K "One" "told" "One.told" (inner (top 12) 1) ["self"] := dm_mk ca12 zf_cb12 a12 cn12 l12 e12 k12 fun _ _ _ _ _ _ us hl => match us, hl with | [_], _ => rfl
  have c12 : ∀ base : Heap, MtOf l.prog w K mg base "One" "told" 1 (m_One_told_38426) := fun base => sim_One_told T d12
  have d13 : Dm K "Chain" "told" "Chain.told" (inner (top 13) 1) ["self"] := dm_mk ca13 zf_cb13 a13 cn13 l13 e13 k13 fun _ _ _ _ _ _ us hl => match us, hl with | [_], _ => rfl
  have d14 : Dm K "Choice" "told" "Choice.told" (inner (top 14) 1) ["self"] := dm_mk ca14 zf_cb14 a14 cn14 l14 e14 k14 fun _ _ _ _ _ _ us hl => match us, hl with | [_], _ => rfl
  have d15 : Dm K "Mixed" "told" "Mixed.told" (inner (top 16) 1) ["self"] := dm_mk ca15 zf_cb15 a15 cn15 l15 e15 k15 fun _ _ _ _ _ _ us hl => match us, hl with | [_], _ => rfl
  have d16 : Dm K "Times" "told" "Times.told" (inner (top 15) 1) ["self"] := dm_mk ca16 zf_cb16 a16 cn16 l16 e16 k16 fun _ _ _ _ _ _ us hl => match us, hl with | [_], _ => rfl
  have d17 : Df K mg "tolds" (top 17) ["parts"] := df_mk X G a17 l17 e17 k17 fun _ _ _ _ _ _ us hl => match us, hl with | [_], _ => rfl
  have gdone_Chain_told := fun base : Heap => simg_Chain_told (P := l.prog) (w := w) (base := base) T d13 d14 d15 d16 d17 (c12 base) 40
  have c13 : ∀ base : Heap, MtOf l.prog w K mg base "Chain" "told" 41 (m_scc_Chain_told_612a9 40 0) := fun base => (gdone_Chain_told base).1
  have c14 : ∀ base : Heap, MtOf l.prog w K mg base "Choice" "told" 41 (m_scc_Chain_told_612a9 40 1) := fun base => (gdone_Chain_told base).2.1
  have c15 : ∀ base : Heap, MtOf l.prog w K mg base "Mixed" "told" 41 (m_scc_Chain_told_612a9 40 2) := fun base => (gdone_Chain_told base).2.2.1
  have c16 : ∀ base : Heap, MtOf l.prog w K mg base "Times" "told" 41 (m_scc_Chain_told_612a9 40 3) := fun base => (gdone_Chain_told base).2.2.2.1
  have c17 : ∀ base : Heap, Cal l.prog w K mg base "tolds" 41 (m_scc_Chain_told_612a9 40 4) := fun base => (gdone_Chain_told base).2.2.2.2
  have d18 : Df K mg "each_once" (top 20) ["parts"] := df_mk X G a18 l18 e18 k18 fun _ _ _ _ _ _ us hl => match us, hl with | [_], _ => rfl
  have c18 : ∀ base : Heap, Cal l.prog w K mg base "each_once" 102 (m_each_once_675d0) := fun base => sim_each_once T d18 (c11 base) (c12 base) (c13 base) (c14 base) (c16 base) (c15 base)
  have d19 : Di K mg "Choice" "Choice.__init__" (inner (top 14) 0) ["self", "parts"] := di_mk X G ca19 cm19 a19 cn19 ck19 l19 e19 k19 fun _ _ _ _ _ _ us hl => match us, hl with | [_, _], _ => rfl
  have c19 : ∀ base : Heap, MkOf l.prog w K mg base "Choice" 1 (m_Choice___init___2c9b4) := fun base => sim_Choice___init__ T d19
  have d20 : Df K mg "choice" (top 24) ["parts"] := df_mk X G a20 l20 e20 k20 fun _ _ _ _ _ _ us hl => match us, hl with | [_], _ => rfl
  have c20 : ∀ base : Heap, Cal l.prog w K mg base "choice" 103 (m_choice_458e9) := fun base => sim_choice T d20 (c18 base) (c19 base)
  have d21 : Di K mg "Times" "Times.__init__" (inner (top 15) 0) ["self", "part", "low", "high"] := di_mk X G ca21 cm21 a21 cn21 ck21 l21 e21 k21 fun _ _ _ _ _ _ us hl => match us, hl with | [_, _, _, _], _ => rfl
  have c21 : ∀ base : Heap, MkOf l.prog w K mg base "Times" 1 (m_Times___init___6a51e) := fun base => sim_Times___init__ T d21
  have d22 : Df K mg "is_empty" (top 21) ["part"] := df_mk X G a22 l22 e22 k22 fun _ _ _ _ _ _ us hl => match us, hl with | [_], _ => rfl
  have c22 : ∀ base : Heap, Cal l.prog w K mg base "is_empty" 1 (m_is_empty_d2ea2) := fun base => sim_is_empty T d22
  have d23 : DfD K mg "times" (top 25) ["part", "low", "high"] [.int 0, .non] := dfd_mk (its := [.int 0 tT23_0, .none]) X G a23 l23 lT23 dT23 (.cons ⟨_, rfl⟩ (.cons rfl (.nil))) (by simp) e23 k23 (fun fd F j hj => match j, hj with | 0, _ => F.binds1 1 0 (by simp) rfl (fun _ _ _ _ _ _ _ us its hl hi => match us, its, hl, hi with | [_], [_, _], _, _ => ⟨_, rfl, rfl⟩) | 1, _ => F.binds1 2 1 (by simp) rfl (fun _ _ _ _ _ _ _ us its hl hi => match us, its, hl, hi with | [_, _], [_, _], _, _ => ⟨_, rfl, rfl⟩) | 2, _ => F.binds1 3 2 (by simp) rfl (fun _ _ _ _ _ _ _ us its hl hi => match us, its, hl, hi with | [_, _, _], [_, _], _, _ => ⟨_, rfl, rfl⟩) | j + 3, hj => absurd hj (by simp))
  have c23 : ∀ base : Heap, CalD l.prog w K mg base "times" 3 (m_times_2f53e) [.int 0, .non] := fun base => sim_times T d23 (c22 base) (c7 base) (c21 base)
  have d24 : Di K mg "Mixed" "Mixed.__init__" (inner (top 16) 0) ["self", "parts"] := di_mk X G ca24 cm24 a24 cn24 ck24 l24 e24 k24 fun _ _ _ _ _ _ us hl => match us, hl with | [_, _], _ => rfl
  have c24 : ∀ base : Heap, MkOf l.prog w K mg base "Mixed" 1 (m_Mixed___init___1502e) := fun base => sim_Mixed___init__ T d24
  have d25 : Df K mg "mixed" (top 26) ["parts"] := df_mk X G a25 l25 e25 k25 fun _ _ _ _ _ _ us hl => match us, hl with | [_], _ => rfl
  have c25 : ∀ base : Heap, Cal l.prog w K mg base "mixed" 3 (m_mixed_cabfe) := fun base => sim_mixed T d25 (c22 base) (c7 base) (c24 base)
  have d26 : Df K mg "_law_pattern" (top 33) ["_law_forms", "_law_tape_here"] := df_mk X G a26 l26 e26 k26 fun _ _ _ _ _ _ us hl => match us, hl with | [_, _], _ => rfl
  have c26 : ∀ base : Heap, Cal l.prog w K mg base "_law_pattern" 104 (m_pattern_fe5af) := fun base => sim__law_pattern T d26 (c10 base) (c4 base) (c8 base) (c20 base) (c23 base) (c25 base)
  have d27 : Dm K "One" "speaks" "One.speaks" (inner (top 12) 4) ["self"] := dm_mk ca27 zf_cb27 a27 cn27 l27 e27 k27 fun _ _ _ _ _ _ us hl => match us, hl with | [_], _ => rfl
  have c27 : ∀ base : Heap, MtOf l.prog w K mg base "One" "speaks" 1 (m_One_speaks_46a94) := fun base => sim_One_speaks T d27
  have d28 : Dm K "Chain" "speaks" "Chain.speaks" (inner (top 13) 4) ["self"] := dm_mk ca28 zf_cb28 a28 cn28 l28 e28 k28 fun _ _ _ _ _ _ us hl => match us, hl with | [_], _ => rfl
  have d29 : Dm K "Choice" "speaks" "Choice.speaks" (inner (top 14) 4) ["self"] := dm_mk ca29 zf_cb29 a29 cn29 l29 e29 k29 fun _ _ _ _ _ _ us hl => match us, hl with | [_], _ => rfl
  have d30 : Dm K "Mixed" "speaks" "Mixed.speaks" (inner (top 16) 4) ["self"] := dm_mk ca30 zf_cb30 a30 cn30 l30 e30 k30 fun _ _ _ _ _ _ us hl => match us, hl with | [_], _ => rfl
  have d31 : Dm K "Times" "speaks" "Times.speaks" (inner (top 15) 4) ["self"] := dm_mk ca31 zf_cb31 a31 cn31 l31 e31 k31 fun _ _ _ _ _ _ us hl => match us, hl with | [_], _ => rfl
  have d32 : Df K mg "all_spoken" (top 18) ["parts"] := df_mk X G a32 l32 e32 k32 fun _ _ _ _ _ _ us hl => match us, hl with | [_], _ => rfl
  have gdone_Chain_speaks := fun base : Heap => simg_Chain_speaks (P := l.prog) (w := w) (base := base) T d28 d29 d30 d31 d32 (c27 base) 40
  have c28 : ∀ base : Heap, MtOf l.prog w K mg base "Chain" "speaks" 41 (m_scc_Chain_speaks_d27eb 40 0) := fun base => (gdone_Chain_speaks base).1
  have c29 : ∀ base : Heap, MtOf l.prog w K mg base "Choice" "speaks" 41 (m_scc_Chain_speaks_d27eb 40 1) := fun base => (gdone_Chain_speaks base).2.1
  have c30 : ∀ base : Heap, MtOf l.prog w K mg base "Mixed" "speaks" 41 (m_scc_Chain_speaks_d27eb 40 2) := fun base => (gdone_Chain_speaks base).2.2.1
  have c31 : ∀ base : Heap, MtOf l.prog w K mg base "Times" "speaks" 41 (m_scc_Chain_speaks_d27eb 40 3) := fun base => (gdone_Chain_speaks base).2.2.2.1
  have c32 : ∀ base : Heap, Cal l.prog w K mg base "all_spoken" 41 (m_scc_Chain_speaks_d27eb 40 4) := fun base => (gdone_Chain_speaks base).2.2.2.2
  have d33 : Df K mg "book_of" (top 9) ["rules"] := df_mk X G a33 l33 e33 k33 fun _ _ _ _ _ _ us hl => match us, hl with | [_], _ => rfl
  have c33 : ∀ base : Heap, Cal l.prog w K mg base "book_of" 42 (m_book_of_964ed) := fun base => sim_book_of T d33 (c27 base) (c28 base) (c29 base) (c31 base) (c30 base) (xi_NoBook base)
  have d34 : Df K mg "_law_alike" (top 36) ["_law_found", "_law_rows_here", "_law_tolds_due"] := df_mk X G a34 l34 e34 k34 fun _ _ _ _ _ _ us hl => match us, hl with | [_, _, _], _ => rfl
  have c34 : ∀ base : Heap, Cal l.prog w K mg base "_law_alike" 42 (m_alike_1e0ec) := fun base => sim__law_alike T d34 (c12 base) (c13 base) (c14 base) (c16 base) (c15 base)
  have d35 : Df K mg "_law_refused" (top 37) ["_law_refused_here", "_law_due_here"] := df_mk X G a35 l35 e35 k35 fun _ _ _ _ _ _ us hl => match us, hl with | [_, _], _ => rfl
  have c35 : ∀ base : Heap, Cal l.prog w K mg base "_law_refused" 1 (m_refused_77372) := fun base => sim__law_refused T d35
  have ea := hfa.symm.trans (PySem.W.mg_of X G a36)
  cases ea
  have F := fun_mk (st := top 38) l36 e36 k36
  exact ⟨PySem.W.fnOf "law" "law" (defArgs (top 38)) (defBody (top 38)) (defScope (top 38)) .none kV36 dc36 pm36 an36 cd36 ct36, fun s v => .of_eq rfl, fun base _ _ => sim_law T F (c0 base) (c1 base) (c5 base) (c3 base) (c26 base) (c12 base) (c13 base) (c14 base) (c16 base) (c15 base) (c6 base) (c33 base) (c34 base) (c35 base)⟩
end Sk21

open PySem PySem.W PyProof.Rows
set_option maxRecDepth 100000 in
set_option maxHeartbeats 0 in
theorem PySem.Challenge.cw_graftform_k21_books_made_holds : PySem.Challenge.rw_graftform_k21_books_made.Holds := by
  w_on; o_law; k_head; (case hw => w_witness2)
  k_fill
  refine Mi.law_end (l := PySem.Challenge.rw_graftform_k21_books_made) (k := 105) (x := "_law_script") (F := Mi.m_law_afabe) Mi.main_k21 rfl rfl ⟨rfl, by decide, by decide⟩ (fun w h Y => PySem.W.kIn_of Y) ?F
  case F =>
    intro w mg fa h KX G hmg
    refine' Sk21.all_mk KX G hmg ?a0 ?l0 ?e0 ?k0 ?a1 ?l1 ?e1 ?k1 ?a2 ?l2 ?e2 ?k2 ?a3 ?l3 ?e3 ?k3 ?a4 ?l4 ?e4 ?k4 ?a5 ?l5 ?e5 ?k5 ?a6 ?l6 ?e6 ?k6 ?ca7 ?cm7 ?ck7 ?a7 ?cn7 ?l7 ?e7 ?k7 ?a8 ?l8 ?e8 ?k8 ?ca9 ?cm9 ?ck9 ?a9 ?cn9 ?l9 ?e9 ?k9 ?a10 ?l10 ?e10 ?k10 ?a11 ?l11 ?e11 ?k11 ?ca12 ?zf_cb12 ?a12 ?cn12 ?l12 ?e12 ?k12 ?ca13 ?zf_cb13 ?a13 ?cn13 ?l13 ?e13 ?k13 ?ca14 ?zf_cb14 ?a14 ?cn14 ?l14 ?e14 ?k14 ?ca15 ?zf_cb15 ?a15 ?cn15 ?l15 ?e15 ?k15 ?ca16 ?zf_cb16 ?a16 ?cn16 ?l16 ?e16 ?k16 ?a17 ?l17 ?e17 ?k17 ?a18 ?l18 ?e18 ?k18 ?ca19 ?cm19 ?ck19 ?a19 ?cn19 ?l19 ?e19 ?k19 ?a20 ?l20 ?e20 ?k20 ?ca21 ?cm21 ?ck21 ?a21 ?cn21 ?l21 ?e21 ?k21 ?a22 ?l22 ?e22 ?k22 ?a23 ?l23 ?e23 ?k23 ?lT23 ?dT23 ?ca24 ?cm24 ?ck24 ?a24 ?cn24 ?l24 ?e24 ?k24 ?a25 ?l25 ?e25 ?k25 ?a26 ?l26 ?e26 ?k26 ?ca27 ?zf_cb27 ?a27 ?cn27 ?l27 ?e27 ?k27 ?ca28 ?zf_cb28 ?a28 ?cn28 ?l28 ?e28 ?k28 ?ca29 ?zf_cb29 ?a29 ?cn29 ?l29 ?e29 ?k29 ?ca30 ?zf_cb30 ?a30 ?cn30 ?l30 ?e30 ?k30 ?ca31 ?zf_cb31 ?a31 ?cn31 ?l31 ?e31 ?k31 ?a32 ?l32 ?e32 ?k32 ?a33 ?l33 ?e33 ?k33 ?a34 ?l34 ?e34 ?k34 ?a35 ?l35 ?e35 ?k35 ?a36 ?l36 ?e36 ?k36 ?zb_ValueError ?zb_bool ?zb_int ?zb_isinstance ?zb_len ?zb_list ?zb_min ?zb_range ?zb_sorted ?zb_str ?zb_tuple ?zg_RULES ?zf_ct_form ?zf_ct_high ?zf_ct_low ?zf_ct_part ?zf_ct_parts ?zf_ex_NoBook ?zf_fl_row ?zf_ic_Chain ?zf_ic_Choice ?zf_ic_Mixed ?zf_is_GraftError ?zf_is_NoForm_NoPattern_NoTurner ?zf_is_ValueError ?zf_r_NoPattern ?xa_NoBook ?xc_NoBook ?xi_NoBook ?xt_NoBook ?xn_NoBook ?xl_NoBook ?xe_NoBook ?xk_NoBook
    (case a0 => k_is)
    (case l0 => k_is)
    (case e0 => k_is)
    (case k0 => k_is)
    (case a1 => k_is)
    (case l1 => k_is)
    (case e1 => k_is)
    (case k1 => k_is)
    (case a2 => k_is)
    (case l2 => k_is)
    (case e2 => k_is)
    (case k2 => k_is)
    (case a3 => k_is)
    (case l3 => k_is)
    (case e3 => k_is)
    (case k3 => k_is)
    (case a4 => k_is)
    (case l4 => k_is)
    (case e4 => k_is)
    (case k4 => k_is)
    (case a5 => k_is)
    (case l5 => k_is)
    (case e5 => k_is)
    (case k5 => k_is)
    (case a6 => k_is)
    (case l6 => k_is)
    (case e6 => k_is)
    (case k6 => k_is)
    (case ca7 => k_is)
    (case cm7 => k_is)
    (case ck7 => k_is)
    (case a7 => k_is)
    (case cn7 => k_is)
    (case l7 => k_is)
    (case e7 => k_is)
    (case k7 => k_is)
    (case a8 => k_is)
    (case l8 => k_is)
    (case e8 => k_is)
    (case k8 => k_is)
    (case ca9 => k_is)
    (case cm9 => k_is)
    (case ck9 => k_is)
    (case a9 => k_is)
    (case cn9 => k_is)
    (case l9 => k_is)
    (case e9 => k_is)
    (case k9 => k_is)
    (case a10 => k_is)
    (case l10 => k_is)
    (case e10 => k_is)
    (case k10 => k_is)
    (case a11 => k_is)
    (case l11 => k_is)
    (case e11 => k_is)
    (case k11 => k_is)
    (case ca12 => k_is)
    (case zf_cb12 => kernel_rfl)
    (case a12 => k_is)
    (case cn12 => k_is)
    (case l12 => k_is)
    (case e12 => k_is)
    (case k12 => k_is)
    (case ca13 => k_is)
    (case zf_cb13 => kernel_rfl)
    (case a13 => k_is)
    (case cn13 => k_is)
    (case l13 => k_is)
    (case e13 => k_is)
    (case k13 => k_is)
    (case ca14 => k_is)
    (case zf_cb14 => kernel_rfl)
    (case a14 => k_is)
    (case cn14 => k_is)
    (case l14 => k_is)
    (case e14 => k_is)
    (case k14 => k_is)
    (case ca15 => k_is)
    (case zf_cb15 => kernel_rfl)
    (case a15 => k_is)
    (case cn15 => k_is)
    (case l15 => k_is)
    (case e15 => k_is)
    (case k15 => k_is)
    (case ca16 => k_is)
    (case zf_cb16 => kernel_rfl)
    (case a16 => k_is)
    (case cn16 => k_is)
    (case l16 => k_is)
    (case e16 => k_is)
    (case k16 => k_is)
    (case a17 => k_is)
    (case l17 => k_is)
    (case e17 => k_is)
    (case k17 => k_is)
    (case a18 => k_is)
    (case l18 => k_is)
    (case e18 => k_is)
    (case k18 => k_is)
    (case ca19 => k_is)
    (case cm19 => k_is)
    (case ck19 => k_is)
    (case a19 => k_is)
    (case cn19 => k_is)
    (case l19 => k_is)
    (case e19 => k_is)
    (case k19 => k_is)
    (case a20 => k_is)
    (case l20 => k_is)
    (case e20 => k_is)
    (case k20 => k_is)
    (case ca21 => k_is)
    (case cm21 => k_is)
    (case ck21 => k_is)
    (case a21 => k_is)
    (case cn21 => k_is)
    (case l21 => k_is)
    (case e21 => k_is)
    (case k21 => k_is)
    (case a22 => k_is)
    (case l22 => k_is)
    (case e22 => k_is)
    (case k22 => k_is)
    (case a23 => k_is)
    (case l23 => k_is)
    (case e23 => k_is)
    (case k23 => k_is)
    (case lT23 => k_is)
    (case dT23 => rfl)
    (case ca24 => k_is)
    (case cm24 => k_is)
    (case ck24 => k_is)
    (case a24 => k_is)
    (case cn24 => k_is)
    (case l24 => k_is)
    (case e24 => k_is)
    (case k24 => k_is)
    (case a25 => k_is)
    (case l25 => k_is)
    (case e25 => k_is)
    (case k25 => k_is)
    (case a26 => k_is)
    (case l26 => k_is)
    (case e26 => k_is)
    (case k26 => k_is)
    (case ca27 => k_is)
    (case zf_cb27 => kernel_rfl)
    (case a27 => k_is)
    (case cn27 => k_is)
    (case l27 => k_is)
    (case e27 => k_is)
    (case k27 => k_is)
    (case ca28 => k_is)
    (case zf_cb28 => kernel_rfl)
    (case a28 => k_is)
    (case cn28 => k_is)
    (case l28 => k_is)
    (case e28 => k_is)
    (case k28 => k_is)
    (case ca29 => k_is)
    (case zf_cb29 => kernel_rfl)
    (case a29 => k_is)
    (case cn29 => k_is)
    (case l29 => k_is)
    (case e29 => k_is)
    (case k29 => k_is)
    (case ca30 => k_is)
    (case zf_cb30 => kernel_rfl)
    (case a30 => k_is)
    (case cn30 => k_is)
    (case l30 => k_is)
    (case e30 => k_is)
    (case k30 => k_is)
    (case ca31 => k_is)
    (case zf_cb31 => kernel_rfl)
    (case a31 => k_is)
    (case cn31 => k_is)
    (case l31 => k_is)
    (case e31 => k_is)
    (case k31 => k_is)
    (case a32 => k_is)
    (case l32 => k_is)
    (case e32 => k_is)
    (case k32 => k_is)
    (case a33 => k_is)
    (case l33 => k_is)
    (case e33 => k_is)
    (case k33 => k_is)
    (case a34 => k_is)
    (case l34 => k_is)
    (case e34 => k_is)
    (case k34 => k_is)
    (case a35 => k_is)
    (case l35 => k_is)
    (case e35 => k_is)
    (case k35 => k_is)
    (case a36 => k_is)
    (case l36 => k_is)
    (case e36 => k_is)
    (case k36 => k_is)
    (case zb_ValueError => k_is)
    (case zb_bool => k_is)
    (case zb_int => k_is)
    (case zb_isinstance => k_is)
    (case zb_len => k_is)
    (case zb_list => k_is)
    (case zb_min => k_is)
    (case zb_range => k_is)
    (case zb_sorted => k_is)
    (case zb_str => k_is)
    (case zb_tuple => k_is)
    (case zg_RULES => k_is)
    (case zf_ct_form => kernel_rfl)
    (case zf_ct_high => kernel_rfl)
    (case zf_ct_low => kernel_rfl)
    (case zf_ct_part => kernel_rfl)
    (case zf_ct_parts => kernel_rfl)
    (case zf_ex_NoBook => kernel_rfl)
    (case zf_fl_row => kernel_rfl)
    (case zf_ic_Chain => kernel_rfl)
    (case zf_ic_Choice => kernel_rfl)
    (case zf_ic_Mixed => kernel_rfl)
    (case zf_is_GraftError => kernel_rfl)
    (case zf_is_NoForm_NoPattern_NoTurner => kernel_rfl)
    (case zf_is_ValueError => kernel_rfl)
    (case zf_r_NoPattern => kernel_rfl)
    (case xa_NoBook => k_is)
    (case xc_NoBook => kernel_rfl)
    (case xi_NoBook => k_is)
    (case xt_NoBook => k_is)
    (case xn_NoBook => k_is)
    (case xl_NoBook => k_is)
    (case xe_NoBook => k_is)
    (case xk_NoBook => k_is)

