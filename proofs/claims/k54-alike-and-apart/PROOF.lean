import PyProof.Rows.All
import Wide.All
import OpenK.AllK
import Wide.FinOn
import HandS.ForMost
import HandS.Exc
import HandS.TryOnly
import HandS.ExcOwn
import HandS.WordsExc
import HandS.Wide
import HandS.WideBits
import HandS.EndBits
import HandS.IsInst
import HandS.TupAny
import HandS.Style
import HandS.RevRange
import HandS.Deep
import HandS.Strs
import HandS.Conv
import HandS.Flow
import HandS.DeepEq
import KE.KeyNested
import HandS.ExcInit
import HandS.ExcIs
import HandS.ExcField
import KE.KExcIs
import HandS.Iter
import HandS.TupMul
import HandS.Zip
import HandS.Defaults
import HandS.CallSlots
import KE.KDictSum
import KE.SortData
import HandS.ExcValue
import HandS.Text
import HandS.SetFor
import HandS.TupSets
import KE.KDictPairs
import PyProof.Rows.TupTab
import HandS.More
import HandS.ClsMeth
import KE.KRevSl
import KE.DataMinMax
import KE.KIndexWalk
import PyProof.DictMoreH
import PyProof.Rows.RowBridgeK
import HandS.SetKeys
import PySem.Challenge.RW_graftform_k54_whole_alike_and_apart
set_option Elab.async false
set_option linter.all false
set_option maxRecDepth 100000
set_option maxHeartbeats 4000000
/-! Mir: each def of the program as a Lean function over plain values (tuples by value, lists, dicts, instances in a heap of their own, numbered), and the proof that the def does what the function says. -/
namespace Mi
open PySem L2

inductive D where
  | non | bl (b : Bool) | int (i : Int) | str (x : Str) | tup (l : List D) | ref (i : Nat) | xo (c f : Str) (v : D)
mutual
def D.dec : (a b : D) → Decidable (a = b)
  | .non, .non => .isTrue rfl
  | .non, .bl _ => .isFalse (fun e => nomatch e)
  | .non, .int _ => .isFalse (fun e => nomatch e)
  | .non, .str _ => .isFalse (fun e => nomatch e)
  | .non, .tup _ => .isFalse (fun e => nomatch e)
  | .non, .ref _ => .isFalse (fun e => nomatch e)
  | .bl _, .non => .isFalse (fun e => nomatch e)
  | .bl a, .bl b => if h : a = b then .isTrue (by rw [h]) else .isFalse (fun e => h (D.bl.inj e))
  | .bl _, .int _ => .isFalse (fun e => nomatch e)
  | .bl _, .str _ => .isFalse (fun e => nomatch e)
  | .bl _, .tup _ => .isFalse (fun e => nomatch e)
  | .bl _, .ref _ => .isFalse (fun e => nomatch e)
  | .int _, .non => .isFalse (fun e => nomatch e)
  | .int _, .bl _ => .isFalse (fun e => nomatch e)
  | .int a, .int b => if h : a = b then .isTrue (by rw [h]) else .isFalse (fun e => h (D.int.inj e))
  | .int _, .str _ => .isFalse (fun e => nomatch e)
  | .int _, .tup _ => .isFalse (fun e => nomatch e)
  | .int _, .ref _ => .isFalse (fun e => nomatch e)
  | .str _, .non => .isFalse (fun e => nomatch e)
  | .str _, .bl _ => .isFalse (fun e => nomatch e)
  | .str _, .int _ => .isFalse (fun e => nomatch e)
  | .str a, .str b => if h : a = b then .isTrue (by rw [h]) else .isFalse (fun e => h (D.str.inj e))
  | .str _, .tup _ => .isFalse (fun e => nomatch e)
  | .str _, .ref _ => .isFalse (fun e => nomatch e)
  | .tup _, .non => .isFalse (fun e => nomatch e)
  | .tup _, .bl _ => .isFalse (fun e => nomatch e)
  | .tup _, .int _ => .isFalse (fun e => nomatch e)
  | .tup _, .str _ => .isFalse (fun e => nomatch e)
  | .tup a, .tup b => match D.decs a b with
    | .isTrue h => .isTrue (by rw [h])
    | .isFalse h => .isFalse (fun e => h (D.tup.inj e))
  | .tup _, .ref _ => .isFalse (fun e => nomatch e)
  | .ref _, .non => .isFalse (fun e => nomatch e)
  | .ref _, .bl _ => .isFalse (fun e => nomatch e)
  | .ref _, .int _ => .isFalse (fun e => nomatch e)
  | .ref _, .str _ => .isFalse (fun e => nomatch e)
  | .ref _, .tup _ => .isFalse (fun e => nomatch e)
  | .ref a, .ref b => if h : a = b then .isTrue (by rw [h]) else .isFalse (fun e => h (D.ref.inj e))
  | .non, .xo _ _ _ => .isFalse (fun e => nomatch e)
  | .xo _ _ _, .non => .isFalse (fun e => nomatch e)
  | .bl _, .xo _ _ _ => .isFalse (fun e => nomatch e)
  | .xo _ _ _, .bl _ => .isFalse (fun e => nomatch e)
  | .int _, .xo _ _ _ => .isFalse (fun e => nomatch e)
  | .xo _ _ _, .int _ => .isFalse (fun e => nomatch e)
  | .str _, .xo _ _ _ => .isFalse (fun e => nomatch e)
  | .xo _ _ _, .str _ => .isFalse (fun e => nomatch e)
  | .tup _, .xo _ _ _ => .isFalse (fun e => nomatch e)
  | .xo _ _ _, .tup _ => .isFalse (fun e => nomatch e)
  | .ref _, .xo _ _ _ => .isFalse (fun e => nomatch e)
  | .xo _ _ _, .ref _ => .isFalse (fun e => nomatch e)
  | .xo c f v, .xo c' f' v' => match D.dec v v' with
    | .isTrue h => if k : c = c' ∧ f = f' then .isTrue (by rw [h, k.1, k.2]) else .isFalse (fun e => by cases e; exact k ⟨rfl, rfl⟩)
    | .isFalse h => .isFalse (fun e => by cases e; exact h rfl)
def D.decs : (a b : List D) → Decidable (a = b)
  | [], [] => .isTrue rfl
  | [], _ :: _ => .isFalse (fun e => nomatch e)
  | _ :: _, [] => .isFalse (fun e => nomatch e)
  | a :: r, b :: s => match D.dec a b, D.decs r s with
    | .isTrue h, .isTrue k => .isTrue (by rw [h, k])
    | .isFalse h, _ => .isFalse (fun e => h (List.cons.inj e).1)
    | _, .isFalse k => .isFalse (fun e => k (List.cons.inj e).2)
end
instance : DecidableEq D := D.dec

inductive MO where
  | lst (l : List D) | rol (l : List D) | dK (kvs : List (Key × D)) | ins (c : Str) (fs : List (Str × D)) | dN (kvs : List (NestedKey × D)) | fK (kvs : List (Key × D))
deriving DecidableEq

abbrev MH := List MO
abbrev Slots := List (Option D)

inductive R (α : Type) where
  | ok (a : α) (h : MH) | exc (x : Str) (fs : List (Str × D)) (h : MH) | bad

def R.bind {α β : Type} (r : R α) (f : α → MH → R β) : R β := match r with
  | .ok a h => f a h
  | .exc x fs h => .exc x fs h
  | .bad => .bad
/-- the written part, the classes by name -/
structure G where
  K : PySem.W.Frag
  cm : Str → Option Addr
  w : World

/-! ### values and the heap -/
/-- a tuple that is known to the object: it has no dict of its own -/
def Tk (K : PySem.W.Frag) (H : Hp) (p : Addr) (xs : List V) : Prop :=
  (∃ ob : Obj, ob.dict = none ∧ H p = some (.frz ob (.tup xs))) ∨ ∃ (ob : Obj) (ws : Array Value) (n : Nat), K.lookup p = some ob ∧ ob.cls = .type "tuple" ∧ ob.dict = none ∧ ob.data = .seq ws n ∧ ws.size ≤ sizeLine ∧ Vals xs ws.toList
theorem Tk.sq {K : PySem.W.Frag} {H : Hp} {p : Addr} {xs : List V} (h : Tk K H p xs) : SqT K H p xs := by
  rcases h with ⟨ob, _, h⟩ | ⟨ob, ws, n, h1, h2, _, h3⟩
  · exact .inl (.inr ⟨ob, h⟩)
  · exact .inr ⟨ob, ws, n, h1, h2, h3⟩
/-- an exception that is kept: its class, its dict -/
def XOk (C : Addr) (d : Option Addr) (a : Addr) : HO := .ext fun h => ∃ (oe : Obj) (vs : Array Value), h.get? a = some oe ∧ Zc (.ref C) d oe ∧ oe.data = .fields vs
def isX (p : Addr) (u : HO) : Prop := (∃ C d, u = XOk C d p) ∨ ∃ fs, u = .xd fs
mutual
inductive VR (g : G) (H : Hp) (μ : List Addr) : V → D → Prop
  | non : VR g H μ .non .non
  | bl (b : Bool) : VR g H μ (.bl b) (.bl b)
  | int (i : Int) : VR g H μ (.int i) (.int i)
  | str (x : Str) : VR g H μ (.str x) (.str x)
  | ref {p : Addr} {i : Nat} : μ[i]? = some p → VR g H μ (.ref p) (.ref i)
  | tup {p : Addr} {xs : List V} {ds : List D} : Tk g.K H p xs → VRs g H μ xs ds → VR g H μ (.ref p) (.tup ds)
  | xo {p C : Addr} {d : Option Addr} {c f : Str} {v : V} {dv : D} : H p = some (XOk C d p) → g.cm c = some C → ((f = Str.ofString "" ∧ d = none) ∨ ∃ dd fv, d = some dd ∧ H dd = some (.xd fv) ∧ fv.lookup f = some v) → VR g H μ v dv → VR g H μ (.ref p) (.xo c f dv)
inductive VRs (g : G) (H : Hp) (μ : List Addr) : List V → List D → Prop
  | nil : VRs g H μ [] []
  | cons {v : V} {d : D} {vs : List V} {ds : List D} : VR g H μ v d → VRs g H μ vs ds → VRs g H μ (v :: vs) (d :: ds)
end
mutual
/-- a thing as a key -/
def nkD : D → Option NestedKey
  | .non => some .none
  | .bl b => some (.num (if b = true then 1 else 0))
  | .int i => some (.num i)
  | .str x => some (.text x)
  | .tup l => (nkDs l).map NestedKey.tup
  | .ref _ => none
  | .xo _ _ _ => none
def nkDs : List D → Option (List NestedKey)
  | [] => some []
  | d :: l => match nkD d, nkDs l with
    | some k, some ks => some (k :: ks)
    | _, _ => none
end
/-- a dict whose keys are tuples -/
def DN (w : World) (a : Addr) (xs : List (NestedKey × Addr × Value)) : HO := .ext fun h => xs.length ≤ sizeLine ∧ (a == sysModules) = false ∧ ∃ o es ep, h.get? a = some o ∧ o.ExactDict ∧ o.data = .dict es ep ∧ es.toList = xs.map (fun x => ⟨x.1.hash w, .ref x.2.1, x.2.2⟩) ∧ (xs.map (·.1)).Nodup
inductive NR (g : G) (H : Hp) (μ : List Addr) : List (NestedKey × Addr × Value) → List (NestedKey × D) → Prop
  | nil : NR g H μ [] []
  | cons {k : NestedKey} {a : Addr} {u : Value} {e d : D} {v : V} {xs : List (NestedKey × Addr × Value)} {ds : List (NestedKey × D)} : VR g H μ (.ref a) e → nkD e = some k → k.depth ≤ 8 → RelV v u → VR g H μ v d → NR g H μ xs ds → NR g H μ ((k, a, u) :: xs) ((k, d) :: ds)
inductive KR {κ : Type} (g : G) (H : Hp) (μ : List Addr) : List (κ × V) → List (κ × D) → Prop
  | nil : KR g H μ [] []
  | cons {k : κ} {v : V} {d : D} {vs : List (κ × V)} {ds : List (κ × D)} : VR g H μ v d → KR g H μ vs ds → KR g H μ ((k, v) :: vs) ((k, d) :: ds)
inductive SR (g : G) (H : Hp) (μ : List Addr) : List (Option V) → Slots → Prop
  | nil : SR g H μ [] []
  | no {o : Option V} {σ : List (Option V)} {ρ : Slots} : SR g H μ σ ρ → SR g H μ (o :: σ) (none :: ρ)
  | yes {v : V} {d : D} {σ : List (Option V)} {ρ : Slots} : VR g H μ v d → SR g H μ σ ρ → SR g H μ (some v :: σ) (some d :: ρ)

/-- a list that is only read -/
def Lk (K : PySem.W.Frag) (H : Hp) (a : Addr) (xs : List V) : Prop :=
  (∃ o, H a = some (.frz o (.lst xs))) ∨ ∃ (o : Obj) (its : Array Value) (n : Nat), K.lookup a = some o ∧ o.cls = .type "list" ∧ o.dict = none ∧ o.data = .seq its n ∧ its.size ≤ sizeLine ∧ Vals xs its.toList
theorem Lk.sq {K : PySem.W.Frag} {H : Hp} {a : Addr} {xs : List V} (h : Lk K H a xs) : SqL K H a xs := by
  rcases h with ⟨o, h⟩ | h
  · exact .inl (.inr ⟨o, h⟩)
  · exact .inr h

def OR (g : G) (H : Hp) (μ : List Addr) (p : Addr) : MO → Prop
  | .lst ds => ∃ xs, H p = some (.lst xs) ∧ VRs g H μ xs ds
  | .rol ds => ∃ xs, Lk g.K H p xs ∧ VRs g H μ xs ds
  | .dK kvs => ∃ kv, H p = some (.dK kv) ∧ KR g H μ kv kvs
  | .ins c fs => ∃ C dx fv, H p = some (.ins C dx fv) ∧ g.cm c = some C ∧ KR g H μ fv fs
  | .dN kvs => ∃ xs, H p = some (DN g.w p xs) ∧ NR g H μ xs kvs
  | .fK kvs => ∃ o kv, H p = some (.frz o (.dK kv)) ∧ KR g H μ kv kvs
def isMut : MO → Bool
  | .rol _ => false
  | _ => true
structure HR (g : G) (H : Hp) (μ : List Addr) (h : MH) : Prop where
  len : μ.length = h.length
  ob : ∀ (i : Nat) (p : Addr) (o : MO), μ[i]? = some p → h[i]? = some o → OR g H μ p o
  nd : ∀ (i j : Nat) (p : Addr) (o u : MO), μ[i]? = some p → μ[j]? = some p → h[i]? = some o → h[j]? = some u → isMut o = true → isMut u = true → i = j

/-- what stands stands on: the tuples, the numbering -/
structure Mon (g : G) (H H' : Hp) (μ μ' : List Addr) : Prop where
  pre : μ <+: μ'
  tups : ∀ p xs, Tk g.K H p xs → Tk g.K H' p xs
  xs : ∀ p u, isX p u → H p = some u → H' p = some u
  fz : ∀ p w v, H p = some (.frz w v) → H' p = some (.frz w v)
section
variable {g : G} {H H1 H2 : Hp} {μ μ1 μ2 : List Addr}
theorem Mon.refl : Mon g H H μ μ := ⟨List.prefix_rfl, fun _ _ h => h, fun _ _ _ h => h, fun _ _ _ h => h⟩
theorem Mon.trans (a : Mon g H H1 μ μ1) (b : Mon g H1 H2 μ1 μ2) : Mon g H H2 μ μ2 := ⟨a.pre.trans b.pre, fun p xs h => b.tups p xs (a.tups p xs h), fun p u x h => b.xs p u x (a.xs p u x h), fun p w v h => b.fz p w v (a.fz p w v h)⟩
theorem Mon.ix (m : Mon g H H1 μ μ1) {i : Nat} {p : Addr} (h : μ[i]? = some p) : μ1[i]? = some p := by
  obtain ⟨t, rfl⟩ := m.pre
  rw [List.getElem?_append_left (List.getElem?_eq_some_iff.mp h).1]
  exact h
mutual
theorem VR.mono (m : Mon g H H1 μ μ1) : ∀ {v : V} {d : D}, VR g H μ v d → VR g H1 μ1 v d
  | _, _, .non => .non
  | _, _, .bl b => .bl b
  | _, _, .int i => .int i
  | _, _, .str x => .str x
  | _, _, .ref h => .ref (m.ix h)
  | _, _, .tup h hs => .tup (m.tups _ _ h) (VRs.mono m hs)
  | _, _, .xo h c f v => .xo (m.xs _ _ (.inl ⟨_, _, rfl⟩) h) c (by
      rcases f with f | ⟨dd, fv, e1, e2, e3⟩
      · exact .inl f
      · exact .inr ⟨dd, fv, e1, m.xs _ _ (.inr ⟨_, rfl⟩) e2, e3⟩) (VR.mono m v)
theorem VRs.mono (m : Mon g H H1 μ μ1) : ∀ {vs : List V} {ds : List D}, VRs g H μ vs ds → VRs g H1 μ1 vs ds
  | _, _, .nil => .nil
  | _, _, .cons a b => .cons (VR.mono m a) (VRs.mono m b)
end
theorem KR.mono {κ : Type} (m : Mon g H H1 μ μ1) : ∀ {vs : List (κ × V)} {ds : List (κ × D)}, KR g H μ vs ds → KR g H1 μ1 vs ds
  | _, _, .nil => .nil
  | _, _, .cons a b => .cons (a.mono m) (KR.mono m b)
theorem NR.mono (m : Mon g H H1 μ μ1) : ∀ {xs : List (NestedKey × Addr × Value)} {ds : List (NestedKey × D)}, NR g H μ xs ds → NR g H1 μ1 xs ds
  | _, _, .nil => .nil
  | _, _, .cons a e l r v b => .cons (a.mono m) e l r (v.mono m) (NR.mono m b)
theorem SR.mono (m : Mon g H H1 μ μ1) : ∀ {σ : List (Option V)} {ρ : Slots}, SR g H μ σ ρ → SR g H1 μ1 σ ρ
  | _, _, .nil => .nil
  | _, _, .no b => .no (SR.mono m b)
  | _, _, .yes a b => .yes (a.mono m) (SR.mono m b)
theorem VRs.length : ∀ {vs : List V} {ds : List D}, VRs g H μ vs ds → vs.length = ds.length
  | _, _, .nil => rfl
  | _, _, .cons _ b => by rw [List.length_cons, List.length_cons, VRs.length b]
theorem VRs.get : ∀ {vs : List V} {ds : List D} {i : Nat} {d : D}, VRs g H μ vs ds → ds[i]? = some d → ∃ v, vs[i]? = some v ∧ VR g H μ v d
  | _, _, _, _, .nil, e => by simp at e
  | _, _, 0, _, .cons a _, e => by
    simp only [List.getElem?_cons_zero, Option.some.injEq] at e
    subst e
    exact ⟨_, rfl, a⟩
  | _, _, i + 1, _, .cons _ b, e => by
    obtain ⟨v, h1, h2⟩ := VRs.get (i := i) b (by simpa using e)
    exact ⟨v, by simpa using h1, h2⟩
theorem VRs.append : ∀ {vs ws : List V} {ds es : List D}, VRs g H μ vs ds → VRs g H μ ws es → VRs g H μ (vs ++ ws) (ds ++ es)
  | _, _, _, _, .nil, h => h
  | _, _, _, _, .cons a b, h => .cons a (VRs.append b h)
theorem VRs.take (n : Nat) : ∀ {vs : List V} {ds : List D}, VRs g H μ vs ds → VRs g H μ (vs.take n) (ds.take n) := by
  induction n with
  | zero => intro vs ds _; simp only [List.take_zero]; exact .nil
  | succ n ih =>
    intro vs ds h
    cases h with
    | nil => simp only [List.take_nil]; exact .nil
    | cons a b => simp only [List.take_succ_cons]; exact .cons a (ih b)
theorem VRs.drop (n : Nat) : ∀ {vs : List V} {ds : List D}, VRs g H μ vs ds → VRs g H μ (vs.drop n) (ds.drop n) := by
  induction n with
  | zero => intro vs ds h; exact h
  | succ n ih =>
    intro vs ds h
    cases h with
    | nil => simp only [List.drop_nil]; exact .nil
    | cons a b => simp only [List.drop_succ_cons]; exact ih b
theorem VRs.set (i : Nat) {v : V} {d : D} (r : VR g H μ v d) : ∀ {vs : List V} {ds : List D}, VRs g H μ vs ds → VRs g H μ (vs.set i v) (ds.set i d) := by
  induction i with
  | zero =>
    intro vs ds h
    cases h with
    | nil => exact .nil
    | cons a b => exact .cons r b
  | succ n ih =>
    intro vs ds h
    cases h with
    | nil => exact .nil
    | cons a b => exact .cons a (ih b)
theorem VRs.reverse : ∀ {vs : List V} {ds : List D}, VRs g H μ vs ds → VRs g H μ vs.reverse ds.reverse
  | _, _, .nil => .nil
  | _, _, .cons a b => by
    rw [List.reverse_cons, List.reverse_cons]
    exact (VRs.reverse b).append (.cons a .nil)
theorem VRs.dropLast : ∀ {vs : List V} {ds : List D}, VRs g H μ vs ds → VRs g H μ vs.dropLast ds.dropLast
  | _, _, .nil => .nil
  | _, _, .cons a .nil => .nil
  | _, _, .cons a (.cons b c) => .cons a (VRs.dropLast (.cons b c))
theorem VRs.one {v : V} {d : D} (a : VR g H μ v d) : VRs g H μ [v] [d] := .cons a .nil
theorem SR.get : ∀ {σ : List (Option V)} {ρ : Slots} {i : Nat} {d : D}, SR g H μ σ ρ → ρ[i]? = some (some d) → ∃ v, σ[i]? = some (some v) ∧ VR g H μ v d
  | _, _, _, _, .nil, e => by simp at e
  | _, _, 0, _, .no _, e => by simp at e
  | _, _, 0, _, .yes a _, e => by
    simp only [List.getElem?_cons_zero, Option.some.injEq] at e
    subst e
    exact ⟨_, rfl, a⟩
  | _, _, i + 1, _, .no b, e => by
    obtain ⟨v, h1, h2⟩ := SR.get (i := i) b (by simpa using e)
    exact ⟨v, by simpa using h1, h2⟩
  | _, _, i + 1, _, .yes _ b, e => by
    obtain ⟨v, h1, h2⟩ := SR.get (i := i) b (by simpa using e)
    exact ⟨v, by simpa using h1, h2⟩
theorem SR.set (i : Nat) {v : V} {d : D} (r : VR g H μ v d) : ∀ {σ : List (Option V)} {ρ : Slots}, SR g H μ σ ρ → SR g H μ (σ.set i (some v)) (ρ.set i (some d)) := by
  induction i with
  | zero =>
    intro σ ρ h
    cases h with
    | nil => exact .nil
    | no b => exact .yes r b
    | yes a b => exact .yes r b
  | succ n ih =>
    intro σ ρ h
    cases h with
    | nil => exact .nil
    | no b => exact .no (ih b)
    | yes a b => exact .yes a (ih b)
theorem SR.unset (i : Nat) (o : Option V) : ∀ {σ : List (Option V)} {ρ : Slots}, SR g H μ σ ρ → SR g H μ (σ.set i o) (ρ.set i none) := by
  induction i with
  | zero =>
    intro σ ρ h
    cases h with
    | nil => exact .nil
    | no b => exact .no b
    | yes a b => exact .no b
  | succ n ih =>
    intro σ ρ h
    cases h with
    | nil => exact .nil
    | no b => exact .no (ih b)
    | yes a b => exact .yes a (ih b)
theorem SR.start : ∀ {vs : List V} {ds : List D} (n : Nat), VRs g H μ vs ds → SR g H μ (vs.map some ++ List.replicate n none) (ds.map some ++ List.replicate n none)
  | _, _, n, .nil => by
    show SR g H μ (List.replicate n none) (List.replicate n none)
    induction n with
    | zero => exact .nil
    | succ n ih => rw [List.replicate_succ]; exact .no ih
  | _, _, n, .cons a b => .yes a (SR.start n b)

/-! ### the heap changes -/
/-- a place that may be written: neither a tuple's nor a locked thing's -/
def Saf (H : Hp) (p : Addr) : Prop := ∀ u, H p = some u → ((∀ xs, u ≠ .tup xs) ∧ ¬ isX p u) ∧ ∀ o v, u ≠ .frz o v
theorem Saf.fresh {p : Addr} (h : H p = none) : Saf H p := fun u e => by rw [h] at e; cases e
theorem Saf.lst {p : Addr} {xs : List V} (h : H p = some (.lst xs)) : Saf H p := fun u e => by
  rw [h] at e
  cases e
  exact ⟨⟨fun _ z => (nomatch z), fun z => by rcases z with ⟨_, _, z⟩ | ⟨_, z⟩ <;> exact nomatch z⟩, fun _ _ z => (nomatch z)⟩
theorem Saf.dK {p : Addr} {xs : List (Key × V)} (h : H p = some (.dK xs)) : Saf H p := fun u e => by
  rw [h] at e
  cases e
  exact ⟨⟨fun _ z => (nomatch z), fun z => by rcases z with ⟨_, _, z⟩ | ⟨_, z⟩ <;> exact nomatch z⟩, fun _ _ z => (nomatch z)⟩
theorem Saf.ins {p C dx : Addr} {xs : List (Str × V)} (h : H p = some (.ins C dx xs)) : Saf H p := fun u e => by
  rw [h] at e
  cases e
  exact ⟨⟨fun _ z => (nomatch z), fun z => by rcases z with ⟨_, _, z⟩ | ⟨_, z⟩ <;> exact nomatch z⟩, fun _ _ z => (nomatch z)⟩
theorem dn_ne {w : World} {p C : Addr} {d : Option Addr} {xs : List (NestedKey × Addr × Value)} : DN w p xs ≠ XOk C d p := fun z => by
  unfold DN XOk at z
  injection z with z
  have hh : ∃ h : Heap, ∃ (oe : Obj) (vs : Array Value), h.get? p = some oe ∧ Zc (.ref C) d oe ∧ oe.data = .fields vs := by
    refine ⟨{ objs := Array.replicate (p + 1) { cls := .ref C, dict := d, data := .fields #[] } }, { cls := .ref C, dict := d, data := .fields #[] }, #[], ?_, ?_, rfl⟩
    · simp [Heap.get?]
    · exact ⟨rfl, rfl⟩
  obtain ⟨h, oe, vs, h1, h2, h3⟩ := hh
  have z2 := congrFun z h
  obtain ⟨_, _, o, es, ep, e1, _, e3, _⟩ := z2.mpr ⟨oe, vs, h1, h2, h3⟩
  rw [h1] at e1
  cases e1
  rw [h3] at e3
  cases e3
theorem Saf.dN {p : Addr} {w : World} {xs : List (NestedKey × Addr × Value)} (h : H p = some (DN w p xs)) : Saf H p := fun u e => by
  rw [h] at e
  cases e
  exact ⟨⟨fun _ z => (nomatch z), fun z => by
    rcases z with ⟨_, _, z⟩ | ⟨_, z⟩
    · exact dn_ne z
    · exact nomatch z⟩, fun _ _ z => (nomatch z)⟩
theorem Saf.mon {p : Addr} {o : HO} (s : Saf H p) : Mon g H (upd H p o) μ μ := ⟨List.prefix_rfl, fun q xs h => by
  rcases h with ⟨u, hu, h⟩ | h
  · refine .inl ⟨u, hu, ?_⟩
    rw [upd_ne]
    · exact h
    · rintro rfl; exact (s _ h).2 u _ rfl
  · exact .inr h, fun q u x h => by
    rw [upd_ne]
    · exact h
    · rintro rfl; exact (s _ h).1.2 x, fun q w v h => by
    rw [upd_ne]
    · exact h
    · rintro rfl; exact (s _ h).2 w v rfl⟩
theorem OR.mono_at {p : Addr} {o : MO} (m : Mon g H H1 μ μ1) (k : ∀ u, H p = some u → H1 p = some u) (h : OR g H μ p o) : OR g H1 μ1 p o := by
  cases o with
  | lst ds => obtain ⟨xs, a, b⟩ := h; exact ⟨xs, k _ a, b.mono m⟩
  | rol ds =>
    obtain ⟨xs, a, b⟩ := h
    refine ⟨xs, ?_, b.mono m⟩
    rcases a with ⟨u, a⟩ | a
    · exact .inl ⟨u, k _ a⟩
    · exact .inr a
  | dK kvs => obtain ⟨xs, a, b⟩ := h; exact ⟨xs, k _ a, b.mono m⟩
  | ins c fs => obtain ⟨C, dx, xs, a, c', b⟩ := h; exact ⟨C, dx, xs, k _ a, c', b.mono m⟩
  | dN kvs => obtain ⟨xs, a, b⟩ := h; exact ⟨xs, k _ a, b.mono m⟩
  | fK kvs => obtain ⟨u, xs, a, b⟩ := h; exact ⟨u, xs, k _ a, b.mono m⟩
theorem OR.mut {p : Addr} {o : MO} (h : OR g H μ p o) (hm : isMut o = true) : ∃ u, H p = some u := by
  cases o with
  | lst ds => obtain ⟨xs, a, b⟩ := h; exact ⟨_, a⟩
  | rol ds => cases hm
  | dK kvs => obtain ⟨xs, a, b⟩ := h; exact ⟨_, a⟩
  | ins c fs => obtain ⟨C, dx, xs, a, c', b⟩ := h; exact ⟨_, a⟩
  | dN kvs => obtain ⟨xs, a, b⟩ := h; exact ⟨_, a⟩
  | fK kvs => obtain ⟨u, xs, a, b⟩ := h; exact ⟨_, a⟩
/-- a new thing is laid that is no cell of h -/
theorem HR.laid {h : MH} {p : Addr} {o : HO} (r : HR g H μ h) (hp : H p = none) : HR g (upd H p o) μ h :=
  ⟨r.len, fun i q u hi hu => (r.ob i q u hi hu).mono_at (Saf.fresh hp).mon fun w e => by rw [upd_ne (ne_of_none e hp)]; exact e, r.nd⟩
/-- a new cell -/
theorem HR.push {h : MH} {p : Addr} {o : HO} {u : MO} (r : HR g H μ h) (hp : H p = none) (hu : OR g (upd H p o) (μ ++ [p]) p u) : HR g (upd H p o) (μ ++ [p]) (h ++ [u]) := by
  have m : Mon g H (upd H p o) μ (μ ++ [p]) := ⟨List.prefix_append _ _, (Saf.fresh hp : Saf H p).mon (g := g) (μ := μ) (o := o) |>.tups, (Saf.fresh hp : Saf H p).mon (g := g) (μ := μ) (o := o) |>.xs, (Saf.fresh hp : Saf H p).mon (g := g) (μ := μ) (o := o) |>.fz⟩
  have key : ∀ (i : Nat) (q : Addr), (μ ++ [p])[i]? = some q → (i < μ.length ∧ μ[i]? = some q) ∨ (i = μ.length ∧ q = p) := fun i q e => by
    by_cases hi : i < μ.length
    · rw [List.getElem?_append_left hi] at e; exact .inl ⟨hi, e⟩
    · rw [List.getElem?_append_right (by omega)] at e
      have : i - μ.length = 0 := by
        have := (List.getElem?_eq_some_iff.mp e).1
        simp at this; omega
      rw [this] at e
      simp at e
      exact .inr ⟨by omega, e.symm⟩
  have keyh : ∀ (i : Nat) (w : MO), (h ++ [u])[i]? = some w → (i < h.length ∧ h[i]? = some w) ∨ (i = h.length ∧ w = u) := fun i w e => by
    by_cases hi : i < h.length
    · rw [List.getElem?_append_left hi] at e; exact .inl ⟨hi, e⟩
    · rw [List.getElem?_append_right (by omega)] at e
      have : i - h.length = 0 := by
        have := (List.getElem?_eq_some_iff.mp e).1
        simp at this; omega
      rw [this] at e
      simp at e
      exact .inr ⟨by omega, e.symm⟩
  have l := r.len
  refine ⟨by simp [l], fun i q w hi hw => ?_, fun i j q w v hi hj hw hv m1 m2 => ?_⟩
  · rcases key i q hi with ⟨a, b⟩ | ⟨a, b⟩
    · rcases keyh i w hw with ⟨c, d⟩ | ⟨c, d⟩
      · exact (r.ob i q w b d).mono_at m fun x e => by rw [upd_ne (ne_of_none e hp)]; exact e
      · omega
    · rcases keyh i w hw with ⟨c, d⟩ | ⟨c, d⟩
      · omega
      · subst b d; exact hu
  · rcases key i q hi with ⟨a, b⟩ | ⟨a, b⟩ <;> rcases key j q hj with ⟨a', b'⟩ | ⟨a', b'⟩
    · rcases keyh i w hw with ⟨c, d⟩ | ⟨c, d⟩
      · rcases keyh j v hv with ⟨c', d'⟩ | ⟨c', d'⟩
        · exact r.nd i j q w v b b' d d' m1 m2
        · omega
      · omega
    · rcases keyh i w hw with ⟨c, d⟩ | ⟨c, d⟩
      · obtain ⟨x, e⟩ := (r.ob i q w b d).mut m1
        subst b'
        rw [hp] at e; cases e
      · omega
    · rcases keyh j v hv with ⟨c, d⟩ | ⟨c, d⟩
      · obtain ⟨x, e⟩ := (r.ob j q v b' d).mut m2
        subst b
        rw [hp] at e; cases e
      · omega
    · omega
/-- a cell is written -/
theorem HR.write {h : MH} {i : Nat} {p : Addr} {o : HO} {u w : MO} (r : HR g H μ h) (hi : μ[i]? = some p) (hw : h[i]? = some w) (mw : isMut w = true) (s : Saf H p) (mu : isMut u = true) (hu : OR g (upd H p o) μ p u) : HR g (upd H p o) μ (h.set i u) := by
  have m : Mon g H (upd H p o) μ μ := s.mon
  have hlt : i < h.length := (List.getElem?_eq_some_iff.mp hw).1
  refine ⟨by rw [List.length_set]; exact r.len, fun j q v hj hv => ?_, fun j k q v x hj hk hv hx m1 m2 => ?_⟩
  · by_cases e : i = j
    · subst e
      rw [List.getElem?_set_self hlt] at hv
      rw [hi] at hj
      cases hj; cases hv
      exact hu
    · rw [List.getElem?_set_ne e] at hv
      have old := r.ob j q v hj hv
      cases mv : isMut v with
      | true =>
        refine old.mono_at m fun x ex => ?_
        rw [upd_ne]
        · exact ex
        · rintro rfl; exact e (r.nd i j q w v hi hj hw hv mw mv)
      | false =>
        cases v with
        | rol ds =>
          obtain ⟨xs, a, b⟩ := old
          refine ⟨xs, ?_, b.mono m⟩
          rcases a with ⟨u', a⟩ | a
          · refine .inl ⟨u', ?_⟩
            rw [upd_ne]
            · exact a
            · rintro rfl; exact (s _ a).2 _ _ rfl
          · exact .inr a
        | lst ds => cases mv
        | dK kvs => cases mv
        | ins c fs => cases mv
        | dN kvs => cases mv
        | fK kvs => cases mv
  · have key : ∀ (j : Nat) (v : MO), (h.set i u)[j]? = some v → isMut v = true → ∃ v', h[j]? = some v' ∧ isMut v' = true := fun j v hv mv => by
      by_cases e : i = j
      · subst e; exact ⟨w, hw, mw⟩
      · rw [List.getElem?_set_ne e] at hv; exact ⟨v, hv, mv⟩
    obtain ⟨v', hv', mv'⟩ := key j v hv m1
    obtain ⟨x', hx', mx'⟩ := key k x hx m2
    exact r.nd j k q v' x' hj hk hv' hx' mv' mx'
end

/-! ### rules that lay tuples, the new one known to the object -/
section
variable {X : Cx} {es : List Expr} {t : TA} {pos : Pos}
def tTupF (t : TA) : TE := fun σ H Q => t σ H fun xs H1 => xs.length ≤ sizeLine ∧ ∀ (p : Addr) (ob : Obj), H1 p = none → ob.dict = none → Q (.ref p) (upd H1 p (.frz ob (.tup xs)))
theorem pe_tupF {x1} (h : PA X es t) : PE X (.Tuple es x1 pos) (tTupF t) := by
  refine ⟨fun pins s σ H Q I hq => ?_⟩
  refine wpAny_Tuple_spliced (thn (h.run pos pins s σ H _ I hq) fun us s1 ⟨xs, H1, I1, rv, zl, q⟩ => ⟨by rw [← rv.length]; exact zl, ?_⟩)
  have new : H1 s1.heap.objs.size = none := I1.hok.fresh (Nat.le_refl _)
  refine ⟨.ref s1.heap.objs.size, upd H1 s1.heap.objs.size (.frz { cls := .type "tuple", data := .seq us.toArray } (.tup xs)), I1.laid (t' := s1.toks) (fun b u e => Heap.get?_push_of_some _ e) (Nat.le_refl _) ?_, rfl, q _ _ new rfl⟩
  exact ⟨Heap.get?_push_size _ rfl, zl, us, rv, PyProof.Rows.IsTup.new _ _⟩
def rTupF (K : PySem.W.Frag) : List V → Hp → VK → Prop := fun xs H Q => ∃ p ys, xs = [.ref p] ∧ ((SqL K H p ys ∧ ∀ (l : Addr) (ob : Obj), H l = none → ob.dict = none → Q (.ref l) (upd H l (.frz ob (.tup ys)))) ∨ (SqT K H p ys ∧ Q (.ref p) H))
theorem call_tupF : CallR X (.type "tuple") (rTupF X.K) := by
  intro pins s σ H xs us Q I rr hh
  obtain ⟨p, ys, rfl, hh⟩ := hh
  rcases hh with ⟨hq, q⟩ | ⟨hq, q⟩
  · obtain ⟨u, rfl, rx⟩ := vals1 rr
    cases rx
    obtain ⟨its, rv, pl, zl⟩ := I.list hq
    have hlen := rv.length
    refine PySem.call_tuple_list pl.isList (fun h' kp => ?_) (by simp only [List.size_toArray]; omega)
    have I1 : Inv X pins σ H { s with heap := h' } := I.kept (t' := s.toks) kp
    refine ⟨.ref h'.objs.size, upd H h'.objs.size (.frz { cls := .type "tuple", data := .seq its.toArray } (.tup ys)), ?_, rfl, q _ _ (I1.hok.fresh (Nat.le_refl _)) rfl⟩
    exact I1.laid (t' := s.toks) (fun b o e => Heap.get?_push_of_some _ e) (Nat.le_refl _) ⟨Heap.get?_push_size _ rfl, zl, its, rv, PyProof.Rows.IsTup.new _ _⟩
  · exact call_tuple_of pins s σ H _ us Q I rr ⟨p, ys, rfl, .inr ⟨hq, q⟩⟩
def rCatF (K : PySem.W.Frag) : R2 := fun x y H Q => ∃ a b xs ys, x = .ref a ∧ y = .ref b ∧ SqT K H a xs ∧ SqT K H b ys ∧ xs.length + ys.length ≤ sizeLine ∧
  (xs = [] → Q (.ref b) H) ∧ (xs ≠ [] → ys = [] → Q (.ref a) H) ∧ (xs ≠ [] → ys ≠ [] → ∀ (p : Addr) (ob : Obj), H p = none → ob.dict = none → Q (.ref p) (upd H p (.frz ob (.tup (xs ++ ys)))))
theorem op_catF : OpR X (binaryOp .Add) (rCatF X.K) := by
  intro pins s σ H x y v u Q I rx ry hh
  obtain ⟨a, b, xs, ys, rfl, rfl, ha, hb, zl, q0, q1, q2⟩ := hh
  cases rx
  cases ry
  obtain ⟨ws1, r1, p1, _⟩ := I.tuple ha
  obtain ⟨ws2, r2, p2, _⟩ := I.tuple hb
  by_cases hx : xs = []
  · subst hx
    cases r1
    exact cat_tup0 p1 p2 ⟨.ref b, H, I, rfl, q0 rfl⟩
  · refine HT.cat_tup p1 p2 (fun z => hx (r1.nil_iff.mp z)) (fun z => ⟨.ref a, H, I, rfl, q1 hx (r2.nil_iff.mp z)⟩) (fun z => ?_) (by rw [← r1.length, ← r2.length]; exact zl)
    refine ⟨.ref s.heap.objs.size, upd H s.heap.objs.size (.frz { cls := .type "tuple", data := .seq (ws1 ++ ws2).toArray } (.tup (xs ++ ys))), ?_, rfl, q2 hx (fun w => z (r2.nil_iff.mpr w)) _ _ (I.hok.fresh (Nat.le_refl _)) rfl⟩
    exact I.laid (t' := s.toks) (fun b ob e => Heap.get?_push_of_some _ e) (Nat.le_refl _) ⟨Heap.get?_push_size _ rfl, by rw [List.length_append]; exact zl, _, r1.append r2, PyProof.Rows.IsTup.new _ _⟩
def rSlF (K : PySem.W.Frag) : V → Option Int → Option Int → Hp → VK → Prop := fun x lo hi H Q => ∃ a xs, x = .ref a ∧ SqT K H a xs ∧
  (HT.sIx xs.length 0 lo = 0 ∧ HT.sIx xs.length xs.length hi = xs.length → Q (.ref a) H) ∧ (¬ (HT.sIx xs.length 0 lo = 0 ∧ HT.sIx xs.length xs.length hi = xs.length) → ∀ (p : Addr) (ob : Obj), H p = none → ob.dict = none → Q (.ref p) (upd H p (.frz ob (.tup (cutV xs lo hi)))))
theorem sl_tupF : SlR X (rSlF X.K) := by
  intro pins s σ H x v vl vu lo hi sl Q I rx hs pl pu hh
  obtain ⟨a, xs, rfl, hx, q1, q2⟩ := hh
  by_cases hw : HT.sIx xs.length 0 lo = 0 ∧ HT.sIx xs.length xs.length hi = xs.length
  · exact sl_tupA pins s σ H _ v vl vu lo hi sl Q I rx hs pl pu ⟨a, xs, rfl, hx, q1, fun z => absurd hw z⟩
  · cases rx
    obtain ⟨ws, rv, ht, zl⟩ := I.tuple hx
    have el : ws.toArray.size = xs.length := by rw [List.size_toArray]; exact rv.length.symm
    refine ⟨"tuple", _, PyProof.Rows.slot_tuple_getitem.lookup, ht.typeIs, ?_⟩
    refine HT.getItem_tuple_cut ht hs pl pu (by rw [el]; exact hw) ?_ (by rw [el]; exact zl)
    rw [el]
    refine ⟨.ref s.heap.objs.size, upd H s.heap.objs.size (.frz { cls := .type "tuple", data := .seq ((ws.drop (HT.sIx xs.length 0 lo)).take (HT.sIx xs.length xs.length hi - HT.sIx xs.length 0 lo)).toArray } (.tup (cutV xs lo hi))), ?_, rfl, q2 hw _ _ (I.hok.fresh (Nat.le_refl _)) rfl⟩
    exact I.laid (t' := s.toks) (fun b ob e => Heap.get?_push_of_some _ e) (Nat.le_refl _) ⟨Heap.get?_push_size _ rfl, Nat.le_trans (cutV_length xs lo hi) zl, _, (rv.drop _).take _, PyProof.Rows.IsTup.new _ _⟩
end
end Mi

namespace Mi
open PySem L2

/-! ### what is wanted behind -/
/-- an exception of the class named x with these fields -/
def XR (g : G) (H : Hp) (μ : List Addr) (cls : Value) (d : Option Addr) (x : Str) (fs : List (Str × D)) : Prop :=
  ∃ C, cls = .ref C ∧ g.cm x = some C ∧ ((fs = [] ∧ d = none) ∨ ∃ dd fv, fs ≠ [] ∧ d = some dd ∧ H dd = some (.xd fv) ∧ KR g H μ fv fs)
def Bk {α β : Type} (rel : Hp → List Addr → β → α → Prop) (g : G) (H : Hp) (μ : List Addr) (r : R α) (Q : β → Hp → Prop) (W : XK) : Prop := match r with
  | .ok a h' => ∀ b H' μ', Mon g H H' μ μ' → HR g H' μ' h' → rel H' μ' b a → Q b H'
  | .exc x fs h' => ∀ cls d H' μ', Mon g H H' μ μ' → HR g H' μ' h' → XR g H' μ' cls d x fs → W cls d H'
  | .bad => False
abbrev eqR : Hp → List Addr → Bool → Bool → Prop := fun _ _ b a => b = a
abbrev opR : Hp → List Addr → Option Int → Option Int → Prop := fun _ _ b a => b = a
section
variable {g : G} {H H1 : Hp} {μ μ1 : List Addr} {α α' β β' : Type} {rel : Hp → List Addr → β → α → Prop} {rel' : Hp → List Addr → β' → α' → Prop}
theorem Bk.mono {r : R α} {Q : β → Hp → Prop} {W : XK} (m : Mon g H H1 μ μ1) (h : Bk rel g H μ r Q W) : Bk rel g H1 μ1 r Q W := by
  cases r with
  | ok a h' => exact fun b H' μ' m' => h b H' μ' (m.trans m')
  | exc x fs h' => exact fun cls d H' μ' m' => h cls d H' μ' (m.trans m')
  | bad => exact h
theorem Bk.bind {r : R α} {f : α → MH → R α'} {Q : β → Hp → Prop} {Q' : β' → Hp → Prop} {W : XK} (hb : Bk rel' g H μ (r.bind f) Q' W)
    (k : ∀ a h1 b H1 μ1, r = .ok a h1 → Mon g H H1 μ μ1 → HR g H1 μ1 h1 → rel H1 μ1 b a → Bk rel' g H1 μ1 (f a h1) Q' W → Q b H1) : Bk rel g H μ r Q W := by
  cases r with
  | ok a h' => exact fun b H' μ' m hr hv => k a h' b H' μ' rfl m hr hv (Bk.mono m hb)
  | exc x fs h' => exact hb
  | bad => exact hb
end

abbrev ME := Slots → MH → R D
abbrev MT := Slots → MH → R Bool
abbrev MA := Slots → MH → R (List D)
abbrev MP := Slots → MH → R (Option Int)
def tX {α β : Type} (rel : G → Hp → List Addr → β → α → Prop) (g : G) (W : WX) (m : Slots → MH → R α) : St → Hp → (β → Hp → Prop) → Prop := fun σ H Q =>
  ∃ ρ h μ, SR g H μ σ ρ ∧ HR g H μ h ∧ Bk (rel g) g H μ (m ρ h) Q (fun c d H' => W c d σ H')
abbrev tE (g : G) (W : WX) (m : ME) : TE := tX VR g W m
abbrev tT (g : G) (W : WX) (m : MT) : TT := tX (fun _ => eqR) g W m
abbrev tA (g : G) (W : WX) (m : MA) : TA := tX VRs g W m
abbrev tP (g : G) (W : WX) (m : MP) : TO := tX (fun _ => opR) g W m

inductive Out where
  | nx (ρ : Slots) (h : MH) | rt (d : D) (h : MH) | bk (ρ : Slots) (h : MH) | ct (ρ : Slots) (h : MH) | exc (x : Str) (fs : List (Str × D)) (ρ : Slots) (h : MH) | bad
abbrev MS := Slots → MH → Out
def BkS (g : G) (H : Hp) (μ : List Addr) (o : Out) (E : Ends) (W : WX) : Prop := match o with
  | .nx ρ h => ∀ σ' H' μ', Mon g H H' μ μ' → SR g H' μ' σ' ρ → HR g H' μ' h → E.nx σ' H'
  | .rt d h => ∀ v H' μ', Mon g H H' μ μ' → HR g H' μ' h → VR g H' μ' v d → E.rt v H'
  | .bk ρ h => ∀ σ' H' μ', Mon g H H' μ μ' → SR g H' μ' σ' ρ → HR g H' μ' h → E.bk σ' H'
  | .ct ρ h => ∀ σ' H' μ', Mon g H H' μ μ' → SR g H' μ' σ' ρ → HR g H' μ' h → E.ct σ' H'
  | .exc x fs ρ h => ∀ cls d σ' H' μ', Mon g H H' μ μ' → SR g H' μ' σ' ρ → HR g H' μ' h → XR g H' μ' cls d x fs → W cls d σ' H'
  | .bad => False
theorem BkS.mono {g : G} {H H1 : Hp} {μ μ1 : List Addr} {o : Out} {E : Ends} {W : WX} (m : Mon g H H1 μ μ1) (h : BkS g H μ o E W) : BkS g H1 μ1 o E W := by
  cases o with
  | nx ρ h' => exact fun σ' H' μ' m' => h σ' H' μ' (m.trans m')
  | rt d h' => exact fun v H' μ' m' => h v H' μ' (m.trans m')
  | bk ρ h' => exact fun σ' H' μ' m' => h σ' H' μ' (m.trans m')
  | ct ρ h' => exact fun σ' H' μ' m' => h σ' H' μ' (m.trans m')
  | exc x fs ρ h' => exact fun cls d σ' H' μ' m' => h cls d σ' H' μ' (m.trans m')
  | bad => exact h
def tS (g : G) (W : WX) (m : MS) : TS := fun E σ H => ∃ ρ h μ, SR g H μ σ ρ ∧ HR g H μ h ∧ BkS g H μ (m ρ h) E W

/-- an expression's end within a statement -/
def R.out {α : Type} (r : R α) (ρ : Slots) (k : α → MH → Out) : Out := match r with
  | .ok a h => k a h
  | .exc x fs h => .exc x fs ρ h
  | .bad => .bad
section
variable {g : G} {W : WX} {α β α' β' : Type} {rel : G → Hp → List Addr → β → α → Prop} {rel' : G → Hp → List Addr → β' → α' → Prop} {σ : St} {H : Hp} {μ : List Addr} {ρ : Slots} {h : MH}
/-- one part is read; what follows it -/
theorem step {ma : Slots → MH → R α} {f : α → MH → R α'} {Q : β → Hp → Prop} {Q' : β' → Hp → Prop} (sr : SR g H μ σ ρ) (hr : HR g H μ h) (hb : Bk (rel' g) g H μ ((ma ρ h).bind f) Q' (fun c d H' => W c d σ H'))
    (k : ∀ b a h1 H1 μ1, Mon g H H1 μ μ1 → SR g H1 μ1 σ ρ → HR g H1 μ1 h1 → rel g H1 μ1 b a → Bk (rel' g) g H1 μ1 (f a h1) Q' (fun c d H' => W c d σ H') → Q b H1) : tX rel g W ma σ H Q :=
  ⟨ρ, h, μ, sr, hr, Bk.bind hb fun a h1 b H1 μ1 _ m hr1 hv bk => k b a h1 H1 μ1 m (sr.mono m) hr1 hv bk⟩
theorem stepS {ma : Slots → MH → R α} {f : α → MH → Out} {Q : β → Hp → Prop} {E : Ends} (sr : SR g H μ σ ρ) (hr : HR g H μ h) (hb : BkS g H μ ((ma ρ h).out ρ f) E W)
    (k : ∀ b a h1 H1 μ1, Mon g H H1 μ μ1 → SR g H1 μ1 σ ρ → HR g H1 μ1 h1 → rel g H1 μ1 b a → BkS g H1 μ1 (f a h1) E W → Q b H1) : tX rel g W ma σ H Q := by
  refine ⟨ρ, h, μ, sr, hr, ?_⟩
  cases e : ma ρ h with
  | ok a h' =>
    rw [e] at hb
    exact fun b H' μ' m hr' hv => k b a h' H' μ' m (sr.mono m) hr' hv (BkS.mono m hb)
  | exc x fs h' =>
    rw [e] at hb
    exact fun cls d H' μ' m hr' hx => hb cls d σ H' μ' m (sr.mono m) hr' hx
  | bad =>
    rw [e] at hb
    exact hb
end

/-! ### the judgements are monotone -/
section
variable {X : Cx}
theorem pe_mono {e : Expr} {t t' : TE} (h : PE X e t) (hm : ∀ σ H Q, t' σ H Q → t σ H Q) : PE X e t' := ⟨fun pins s σ H Q I q => h.run pins s σ H Q I (hm σ H Q q)⟩
theorem pt_mono {e : Expr} {t t' : TT} (h : PT X e t) (hm : ∀ σ H Q, t' σ H Q → t σ H Q) : PT X e t' := ⟨fun pins s σ H Q I q => h.run pins s σ H Q I (hm σ H Q q)⟩
theorem pw_mono {e : Expr} {t t' : TT} (h : PW X e t) (hm : ∀ σ H Q, t' σ H Q → t σ H Q) : PW X e t' := ⟨fun wh pins s σ H Q I q => h.run wh pins s σ H Q I (hm σ H Q q)⟩
theorem pa_mono {es : List Expr} {t t' : TA} (h : PA X es t) (hm : ∀ σ H Q, t' σ H Q → t σ H Q) : PA X es t' := ⟨fun pos pins s σ H Q I q => h.run pos pins s σ H Q I (hm σ H Q q)⟩
theorem ps_mono {st : Stmt} {t t' : TS} (h : PS X st t) (hm : ∀ E σ H, t' E σ H → t E σ H) : PS X st t' := ⟨fun pins s σ H E I q => h.run pins s σ H E I (hm E σ H q)⟩
theorem pss_mono {st : List Stmt} {t t' : TS} (h : PSs X st t) (hm : ∀ E σ H, t' E σ H → t E σ H) : PSs X st t' := ⟨fun pins s σ H E I q => h.run pins s σ H E I (hm E σ H q)⟩
end

/-! ### plain parts -/
def mVar (i : Nat) : ME := fun ρ h => match ρ[i]? with
  | some (some d) => .ok d h
  | _ => .bad
def mC (d : D) : ME := fun _ h => .ok d h
def mBin (f : D → D → MH → R D) (a b : ME) : ME := fun ρ h => (a ρ h).bind fun x h1 => (b ρ h1).bind fun y h2 => f x y h2
def mUn (f : D → MH → R D) (a : ME) : ME := fun ρ h => (a ρ h).bind fun x h1 => f x h1
def mNil : MA := fun _ h => .ok [] h
def mCons (a : ME) (r : MA) : MA := fun ρ h => (a ρ h).bind fun x h1 => (r ρ h1).bind fun xs h2 => .ok (x :: xs) h2
def mTup (a : MA) : ME := fun ρ h => (a ρ h).bind fun xs h1 => if xs.length ≤ 1000000 then .ok (.tup xs) h1 else .bad
def mLst (a : MA) : ME := fun ρ h => (a ρ h).bind fun xs h1 => if xs.length ≤ 1000000 then .ok (.ref h1.length) (h1 ++ [.lst xs]) else .bad
def mCall (F : List D → MH → R D) (a : MA) : ME := fun ρ h => (a ρ h).bind fun xs h1 => F xs h1

/-- an operation by values -/
def S2 (g : G) (r : R2) (f : D → D → MH → R D) : Prop := ∀ (H : Hp) (μ : List Addr) (h : MH) (x y : V) (a b : D) (Q : VK) (W : XK), HR g H μ h → VR g H μ x a → VR g H μ y b → Bk (VR g) g H μ (f a b h) Q W → r x y H Q
def S1 (g : G) (r : V → Hp → VK → Prop) (f : D → MH → R D) : Prop := ∀ (H : Hp) (μ : List Addr) (h : MH) (x : V) (a : D) (Q : VK) (W : XK), HR g H μ h → VR g H μ x a → Bk (VR g) g H μ (f a h) Q W → r x H Q
def SN (g : G) (r : List V → Hp → VK → Prop) (f : List D → MH → R D) : Prop := ∀ (H : Hp) (μ : List Addr) (h : MH) (xs : List V) (ds : List D) (Q : VK) (W : XK), HR g H μ h → VRs g H μ xs ds → Bk (VR g) g H μ (f ds h) Q W → r xs H Q
def SM (g : G) (r : V → List V → Hp → VK → Prop) (f : D → List D → MH → R D) : Prop := ∀ (H : Hp) (μ : List Addr) (h : MH) (x : V) (xs : List V) (a : D) (ds : List D) (Q : VK) (W : XK), HR g H μ h → VR g H μ x a → VRs g H μ xs ds → Bk (VR g) g H μ (f a ds h) Q W → r x xs H Q

section
variable {g : G} {H : Hp} {μ : List Addr} {h : MH} {Q : VK} {W : XK}
/-- the ends of an operation -/
theorem Bk.val {v : V} {d : D} (hb : Bk (VR g) g H μ (.ok d h) Q W) (hr : HR g H μ h) (hv : VR g H μ v d) : Q v H := hb v H μ Mon.refl hr hv
theorem Bk.newT {xs : List V} {ds : List D} {p : Addr} {ob : Obj} (hb : Bk (VR g) g H μ (.ok (.tup ds) h) Q W) (hr : HR g H μ h) (hv : VRs g H μ xs ds) (hp : H p = none) (ho : ob.dict = none) : Q (.ref p) (upd H p (.frz ob (.tup xs))) := by
  have m : Mon g H (upd H p (.frz ob (.tup xs))) μ μ := (Saf.fresh hp).mon
  exact hb _ _ μ m (hr.laid hp) (.tup (.inl ⟨ob, ho, upd_same⟩) (hv.mono m))
theorem mon_push {p : Addr} {o : HO} (hp : H p = none) : Mon g H (upd H p o) μ (μ ++ [p]) := ⟨List.prefix_append _ _, ((Saf.fresh hp : Saf H p).mon (g := g) (μ := μ) (o := o)).tups, ((Saf.fresh hp : Saf H p).mon (g := g) (μ := μ) (o := o)).xs, ((Saf.fresh hp : Saf H p).mon (g := g) (μ := μ) (o := o)).fz⟩
theorem ix_push {p : Addr} {n : Nat} (l : μ.length = n) : (μ ++ [p])[n]? = some p := by
  subst l
  simp
theorem Bk.newL {xs : List V} {ds : List D} {p : Addr} (hb : Bk (VR g) g H μ (.ok (.ref h.length) (h ++ [.lst ds])) Q W) (hr : HR g H μ h) (hv : VRs g H μ xs ds) (hp : H p = none) : Q (.ref p) (upd H p (.lst xs)) :=
  hb _ _ (μ ++ [p]) (mon_push hp) (hr.push hp ⟨xs, upd_same, hv.mono (mon_push hp)⟩) (.ref (ix_push hr.len))
theorem Bk.setL {xs xs' : List V} {ds ds' : List D} {p : Addr} {i : Nat} {v : V} {d : D} (hb : Bk (VR g) g H μ (.ok d (h.set i (.lst ds'))) Q W) (hr : HR g H μ h) (hi : μ[i]? = some p) (hh : h[i]? = some (.lst ds)) (hp : H p = some (.lst xs)) (hv : VRs g H μ xs' ds') (hd : VR g H μ v d) : Q v (upd H p (.lst xs')) := by
  have m : Mon g H (upd H p (.lst xs')) μ μ := (Saf.lst hp).mon
  exact hb v _ μ m (hr.write hi hh rfl (Saf.lst hp) rfl ⟨xs', upd_same, hv.mono m⟩) (hd.mono m)
/-- a cell that is a list -/
theorem HR.lst {i : Nat} {p : Addr} {ds : List D} (hr : HR g H μ h) (hi : μ[i]? = some p) (hh : h[i]? = some (.lst ds)) : ∃ xs, H p = some (.lst xs) ∧ VRs g H μ xs ds := hr.ob i p _ hi hh
/-- a list that may be read: a cell that changes or not -/
def getL (h : MH) (i : Nat) : Option (List D) := match h[i]? with
  | some (.lst l) => some l
  | some (.rol l) => some l
  | _ => none
theorem HR.list {i : Nat} {p : Addr} {ds : List D} (hr : HR g H μ h) (hi : μ[i]? = some p) (hh : getL h i = some ds) : ∃ xs, SqL g.K H p xs ∧ VRs g H μ xs ds := by
  unfold getL at hh
  split at hh
  · rename_i l e
    cases hh
    obtain ⟨xs, a, b⟩ := hr.ob i p _ hi e
    exact ⟨xs, .inl (.inl a), b⟩
  · rename_i l e
    cases hh
    obtain ⟨xs, a, b⟩ := hr.ob i p _ hi e
    exact ⟨xs, a.sq, b⟩
  · cases hh
end
theorem sz6 {n : Nat} (h : n ≤ 1000000) : n ≤ sizeLine := Nat.le_trans h (by decide)
theorem sz6' {n : Nat} (h : n < 1000000) : n < sizeLine := Nat.lt_trans h (by decide)

section
variable {X : Cx} {g : G} {W : WX} {a b e : Expr} {ma mb : ME} {pos : Pos} {es : List Expr} {mr : MA}
theorem se_var {i : Nat} {x : Str} (hN : X.N[i]? = some x) (hv : Vis X.env.scope x) (hd : (x == ("__debug__" : Str)) = false := by decide) (hcd : (x == ("__classdict__" : Str)) = false := by decide) : PE X (.Name x pos) (tE g W (mVar i)) :=
  pe_mono (pe_var hN hv hd hcd) fun σ H Q ⟨ρ, h, μ, sr, hr, bk⟩ => by
    unfold mVar at bk
    split at bk
    · rename_i d e
      obtain ⟨v, h1, h2⟩ := sr.get e
      exact ⟨v, h1, bk.val hr h2⟩
    · exact bk.elim
theorem mv (i : Nat) {x : Str} {pos : Pos} (hN : X.N[i]? = some x := by rfl) (hv : Vis X.env.scope x := by first | exact Or.inl rfl | exact Or.inr (Or.inl rfl) | exact Or.inr (Or.inr rfl)) (hd : (x == ("__debug__" : Str)) = false := by decide)
    (hcd : (x == ("__classdict__" : Str)) = false := by decide) : PE X (.Name x pos) (tE g W (mVar i)) := se_var hN hv hd hcd
theorem se_const {v : V} {d : D} (h : PE X e (tC v)) (hv : ∀ H μ, VR g H μ v d) : PE X e (tE g W (mC d)) := pe_mono h fun σ H Q ⟨ρ, hh, μ, sr, hr, bk⟩ => bk.val hr (hv H μ)
theorem se_int {i : Int} {j : Nat} : PE X (.Constant (.int i) j pos) (tE g W (mC (.int i))) := se_const pe_int fun _ _ => .int i
theorem se_bl {i : Bool} {j : Nat} : PE X (.Constant (.bool i) j pos) (tE g W (mC (.bl i))) := se_const pe_bl fun _ _ => .bl i
theorem se_non {j : Nat} : PE X (.Constant .none j pos) (tE g W (mC .non)) := se_const pe_non fun _ _ => .non
theorem se_str {x : Str} {j : Nat} : PE X (.Constant (.str x) j pos) (tE g W (mC (.str x))) := se_const pe_str fun _ _ => .str x
/-- two parts by values -/
theorem two {r : R2} {f : D → D → MH → R D} (hs : S2 g r f) {σ : St} {H : Hp} {Q : VK} (q : tE g W (mBin f ma mb) σ H Q) : tOp r (tE g W ma) (tE g W mb) σ H Q := by
  obtain ⟨ρ, h, μ, sr, hr, bk⟩ := q
  exact step sr hr bk fun x a h1 H1 μ1 m1 sr1 hr1 vx bk1 => step sr1 hr1 bk1 fun y b h2 H2 μ2 m2 sr2 hr2 vy bk2 => hs H2 μ2 h2 x y a b Q _ hr2 (vx.mono m2) vy bk2
theorem se_bin {op : Operator} {r : R2} {f : D → D → MH → R D} (ho : OpR X (binaryOp op) r) (hs : S2 g r f) (ha : PE X a (tE g W ma)) (hb : PE X b (tE g W mb)) : PE X (.BinOp a op b pos) (tE g W (mBin f ma mb)) :=
  pe_mono (pe_op ho ha hb) fun σ H Q q => two hs q
theorem se_cmp {op : CmpOp} {r : R2} {f : D → D → MH → R D} (ho : OpR X (compareOp op) r) (hs : S2 g r f) (ha : PE X a (tE g W ma)) (hb : PE X b (tE g W mb)) (hm : behindInMarks op b = false) : PE X (.Compare a [op] [b] pos) (tE g W (mBin f ma mb)) :=
  pe_mono (pe_cmpR ho ha hb hm) fun σ H Q q => two hs q
theorem se_un {op : UnaryOp} {r : V → Hp → VK → Prop} {f : D → MH → R D} (ho : UnR X (unaryOp op) r) (hs : S1 g r f) (ha : PE X a (tE g W ma)) : PE X (.UnaryOp op a pos) (tE g W (mUn f ma)) :=
  pe_mono (pe_un ho ha) fun σ H Q ⟨ρ, h, μ, sr, hr, bk⟩ => step sr hr bk fun x a h1 H1 μ1 m1 sr1 hr1 vx bk1 => hs H1 μ1 h1 x a Q _ hr1 vx bk1
theorem se_ix {r : R2} {f : D → D → MH → R D} (hx : IxR X r) (hs : S2 g r f) (ha : PE X a (tE g W ma)) (hb : PE X b (tE g W mb)) (hp : PlainIx b) : PE X (.Subscript a b pos) (tE g W (mBin f ma mb)) :=
  pe_mono (pe_ix hx ha hb hp) fun σ H Q q => two hs q

/-! ### arguments, displays -/
theorem sa_nil : PA X [] (tA g W mNil) := pa_mono pa_nil fun σ H Q ⟨ρ, h, μ, sr, hr, bk⟩ => bk [] H μ Mon.refl hr .nil
theorem sa_cons (ha : PE X e (tE g W ma)) (hr : PA X es (tA g W mr)) (hs : starEach (e :: es) X.env = (false, eval e X.env) :: starEach es X.env := by rfl) : PA X (e :: es) (tA g W (mCons ma mr)) :=
  pa_mono (pa_cons ha hr hs) fun σ H Q ⟨ρ, h, μ, sr, hr, bk⟩ => step sr hr bk fun x a h1 H1 μ1 m1 sr1 hr1 vx bk1 => step sr1 hr1 bk1 fun xs ds h2 H2 μ2 m2 sr2 hr2 vs bk2 => bk2 (x :: xs) H2 μ2 Mon.refl hr2 (.cons (vx.mono m2) vs)
theorem se_tup {x1 : Nat} (h : PA X es (tA g W mr)) : PE X (.Tuple es x1 pos) (tE g W (mTup mr)) :=
  pe_mono (pe_tupF h) fun σ H Q ⟨ρ, h, μ, sr, hr, bk⟩ => step sr hr bk fun xs ds h1 H1 μ1 m1 sr1 hr1 vs bk1 => by
    split at bk1
    · rename_i hl
      exact ⟨by rw [vs.length]; exact sz6 hl, fun p ob hp ho => bk1.newT hr1 vs hp ho⟩
    · exact bk1.elim
theorem se_lst (h : PA X es (tA g W mr)) : PE X (.List es pos) (tE g W (mLst mr)) :=
  pe_mono (pe_lst h) fun σ H Q ⟨ρ, h, μ, sr, hr, bk⟩ => step sr hr bk fun xs ds h1 H1 μ1 m1 sr1 hr1 vs bk1 => by
    split at bk1
    · rename_i hl
      exact ⟨by rw [vs.length]; exact sz6 hl, fun p hp => bk1.newL hr1 vs hp⟩
    · exact bk1.elim
/-! ### calls of built-ins -/
theorem se_callB {x : Str} {p : Pos} {id : String} {r : List V → Hp → VK → Prop} {f : List D → MH → R D} (hc : CallR X (.builtin id) r) (hs : SN g r f) (hg : Gl X x) (hm : X.mg x = none) (hv : bootBuiltins x = some (.builtin id)) (ha : PA X (e :: es) (tA g W mr))
    (hn : x ≠ "__name__" := by decide) (hdb : (x == ("__debug__" : Str)) = false := by decide)
    (he : starEach (e :: es) X.env = (false, eval e X.env) :: starEach es X.env := by rfl) (hpl : (backTo pos (starEach es X.env)).any (·.1) = false := by rfl) : PE X (.Call (.Name x p) (e :: es) [] pos) (tE g W (mCall f mr)) :=
  pe_mono (pe_callB hc hg hm hv ha hn hdb he hpl) fun σ H Q ⟨ρ, h, μ, sr, hr, bk⟩ => step sr hr bk fun xs ds h1 H1 μ1 m1 sr1 hr1 vs bk1 => hs H1 μ1 h1 xs ds Q _ hr1 vs bk1
theorem se_callTy {x : Str} {p : Pos} {T : String} {r : List V → Hp → VK → Prop} {f : List D → MH → R D} (hc : CallR X (.type T) r) (hs : SN g r f) (hg : Gl X x) (hm : X.mg x = none) (hv : bootBuiltins x = some (.type T)) (ha : PA X (e :: es) (tA g W mr))
    (hn : x ≠ "__name__" := by decide) (hdb : (x == ("__debug__" : Str)) = false := by decide)
    (he : starEach (e :: es) X.env = (false, eval e X.env) :: starEach es X.env := by rfl) (hpl : (backTo pos (starEach es X.env)).any (·.1) = false := by rfl) : PE X (.Call (.Name x p) (e :: es) [] pos) (tE g W (mCall f mr)) :=
  pe_mono (pe_callTy hc hg hm hv ha hn hdb he hpl) fun σ H Q ⟨ρ, h, μ, sr, hr, bk⟩ => step sr hr bk fun xs ds h1 H1 μ1 m1 sr1 hr1 vs bk1 => hs H1 μ1 h1 xs ds Q _ hr1 vs bk1
/-! ### methods of built-in types -/
def mMeth (T : D → MH → Bool) (f : D → List D → MH → R D) (a : ME) (r : MA) : ME := fun ρ h => (a ρ h).bind fun x h1 => if T x h1 = true then (r ρ h1).bind fun xs h2 => f x xs h2 else .bad
def isListD (x : D) (h : MH) : Bool := match x with
  | .ref i => (getL h i).isSome
  | _ => false
def isStrD (x : D) (_ : MH) : Bool := match x with
  | .str _ => true
  | _ => false
def isTupD (x : D) (_ : MH) : Bool := match x with
  | .tup _ => true
  | _ => false
/-! ### defs of the program -/
def spM (g : G) (F : List D → MH → R D) : Sp := fun vs H Q E => ∃ ds h μ, VRs g H μ vs ds ∧ HR g H μ h ∧ Bk (VR g) g H μ (F ds h) Q E
theorem se_call {k : Nat} {f : Addr} {fd : FuncData} {ps : List Str} {F : List D → MH → R D} {x : Str} {p : Pos} (FF : FnOk X.prog X.w X.K X.mg X.base (L2.CX X.prog X.w) k f fd ps (spM g F)) (hr : Room k X.A) (tk : Takes X W) (hm : X.mg x = some (.ref f)) (hk : PySem.W.keepIn X.K (.ref f) = true) (hb : Binds X.K fd ps [])
    (ha : PA X (e :: es) (tA g W mr)) (hg : Gl X x := by rfl) (hdb : (x == ("__debug__" : Str)) = false := by decide) (he : starEach (e :: es) X.env = (false, eval e X.env) :: starEach es X.env := by rfl) (hpl : (backTo pos (starEach es X.env)).any (·.1) = false := by rfl) :
    PE X (.Call (.Name x p) (e :: es) [] pos) (tE g W (mCall F mr)) :=
  pe_mono (pe_callS FF hr hg hm hk hb (fun σ => passAt tk σ) ha hdb he hpl) fun σ H Q ⟨ρ, h, μ, sr, hr, bk⟩ => step sr hr bk fun xs ds h1 H1 μ1 m1 sr1 hr1 vs bk1 => ⟨ds, h1, μ1, vs, hr1, bk1⟩

/-! ### tests -/
def mB (a : ME) : MT := fun ρ h => (a ρ h).bind fun x h1 => match x with
  | .bl b => .ok b h1
  | _ => .bad
def mAnd (a b : MT) : MT := fun ρ h => (a ρ h).bind fun x h1 => if x = true then b ρ h1 else .ok false h1
def mOr (a b : MT) : MT := fun ρ h => (a ρ h).bind fun x h1 => if x = true then .ok true h1 else b ρ h1
def mNot (a : MT) : MT := fun ρ h => (a ρ h).bind fun x h1 => .ok (!x) h1
theorem bl_of {σ : St} {H : Hp} {Q : Bool → Hp → Prop} (q : tT g W (mB ma) σ H Q) : tE g W ma σ H fun x H1 => ∃ c, x = .bl c ∧ Q c H1 := by
  obtain ⟨ρ, h, μ, sr, hr, bk⟩ := q
  refine step (rel := VR) (rel' := fun _ => eqR) (ma := ma) sr hr bk fun x a h1 H1 μ1 m1 sr1 hr1 vx bk1 => ?_
  cases vx with
  | bl b => exact ⟨b, rfl, bk1 b H1 μ1 Mon.refl hr1 rfl⟩
  | _ => exact bk1.elim
theorem st_val (ha : PE X a (tE g W ma)) (he : ∀ whole, isTrue a X.env whole = (do let v ← whole; standAt a.pos; holding [v] (truthy v)) := by intro _; rfl) : PT X a (tT g W (mB ma)) :=
  pt_mono (pt_val ha he) fun σ H Q q => bl_of q
theorem st_cmp {op : CmpOp} {r : R2} {f : D → D → MH → R D} (ho : OpR X (compareOp op) r) (hs : S2 g r f) (ha : PE X a (tE g W ma)) (hb : PE X b (tE g W mb)) (hm : behindInMarks op b = false) : PT X (.Compare a [op] [b] pos) (tT g W (mB (mBin f ma mb))) :=
  pt_mono (pt_cmpR ho ha hb hm) fun σ H Q ⟨ρ, h, μ, sr, hr, bk⟩ => by
    refine two (W := W) (f := f) hs ⟨ρ, h, μ, sr, hr, ?_⟩
    refine Bk.bind bk fun a h1 b H1 μ1 _ m hr1 hv bk1 => ?_
    cases hv with
    | bl b => exact ⟨b, rfl, bk1 b H1 μ1 Mon.refl hr1 rfl⟩
    | _ => exact bk1.elim
variable {tm um : MT} {rest : List Expr}
theorem st_not (ha : PT X a (tT g W tm)) : PT X (.UnaryOp .Not a pos) (tT g W (mNot tm)) :=
  pt_mono (pt_not ha) fun σ H Q ⟨ρ, h, μ, sr, hr, bk⟩ => step (rel := fun _ => eqR) (rel' := fun _ => eqR) (ma := tm) (Q' := Q) sr hr bk fun x a h1 H1 μ1 m1 sr1 hr1 vx bk1 => by
    cases vx
    exact bk1 _ H1 μ1 Mon.refl hr1 rfl
theorem sw_and1 (ha : PT X a (tT g W tm)) : PW X (.BoolOp .And [a] pos) (tT g W tm) := pw_and1 ha
theorem sw_or1 (ha : PT X a (tT g W tm)) : PW X (.BoolOp .Or [a] pos) (tT g W tm) := pw_or1 ha
theorem sw_and (ha : PT X a (tT g W tm)) (hb : PW X (.BoolOp .And (b :: rest) pos) (tT g W um)) : PW X (.BoolOp .And (a :: b :: rest) pos) (tT g W (mAnd tm um)) :=
  pw_mono (pw_and ha hb) fun σ H Q ⟨ρ, h, μ, sr, hr, bk⟩ => step (rel := fun _ => eqR) (rel' := fun _ => eqR) (ma := tm) (Q' := Q) sr hr bk fun x a h1 H1 μ1 m1 sr1 hr1 vx bk1 => by
    cases vx
    cases x with
    | true => exact ⟨ρ, h1, μ1, sr1, hr1, bk1⟩
    | false => exact bk1 _ H1 μ1 Mon.refl hr1 rfl
theorem sw_or (ha : PT X a (tT g W tm)) (hb : PW X (.BoolOp .Or (b :: rest) pos) (tT g W um)) : PW X (.BoolOp .Or (a :: b :: rest) pos) (tT g W (mOr tm um)) :=
  pw_mono (pw_or ha hb) fun σ H Q ⟨ρ, h, μ, sr, hr, bk⟩ => step (rel := fun _ => eqR) (rel' := fun _ => eqR) (ma := tm) (Q' := Q) sr hr bk fun x a h1 H1 μ1 m1 sr1 hr1 vx bk1 => by
    cases vx
    cases x with
    | false => exact ⟨ρ, h1, μ1, sr1, hr1, bk1⟩
    | true => exact bk1 _ H1 μ1 Mon.refl hr1 rfl
/-! ### and, or, not as values (of truths) -/
def mAndV (a b : ME) : ME := fun ρ h => (a ρ h).bind fun x h1 => match x with
  | .bl true => b ρ h1
  | .bl false => .ok (.bl false) h1
  | _ => .bad
def mOrV (a b : ME) : ME := fun ρ h => (a ρ h).bind fun x h1 => match x with
  | .bl false => b ρ h1
  | .bl true => .ok (.bl true) h1
  | _ => .bad
def mNotV (a : ME) : ME := fun ρ h => (a ρ h).bind fun x h1 => match x with
  | .bl b => .ok (.bl (!b)) h1
  | _ => .bad
theorem se_one {op : BoolOp} {t : TE} (h : PE X a t) : PE X (.BoolOp op [a] pos) t := pe_one h
theorem se_and (ha : PE X a (tE g W ma)) (hb : PE X (.BoolOp .And (b :: rest) pos) (tE g W mb)) : PE X (.BoolOp .And (a :: b :: rest) pos) (tE g W (mAndV ma mb)) :=
  pe_mono (pe_and ha hb) fun σ H Q ⟨ρ, h, μ, sr, hr, bk⟩ => step (rel := VR) (rel' := VR) (ma := ma) (Q' := Q) sr hr bk fun x a h1 H1 μ1 m1 sr1 hr1 vx bk1 => by
    cases vx with
    | bl b =>
      cases b with
      | true => exact ⟨true, rfl, ρ, h1, μ1, sr1, hr1, bk1⟩
      | false => exact ⟨false, rfl, bk1.val hr1 (.bl false)⟩
    | _ => exact bk1.elim
theorem se_not (ha : PE X a (tE g W ma)) : PE X (.UnaryOp .Not a pos) (tE g W (mNotV ma)) :=
  pe_mono (pe_not ha) fun σ H Q ⟨ρ, h, μ, sr, hr, bk⟩ => step (rel := VR) (rel' := VR) (ma := ma) (Q' := Q) sr hr bk fun x a h1 H1 μ1 m1 sr1 hr1 vx bk1 => by
    cases vx with
    | bl b => exact ⟨b, rfl, bk1.val hr1 (.bl _)⟩
    | _ => exact bk1.elim
def mIfE (c : MT) (a b : ME) : ME := fun ρ h => (c ρ h).bind fun x h1 => if x = true then a ρ h1 else b ρ h1
theorem se_ifE {c : Expr} (hc : PT X c (tT g W tm)) (ha : PE X a (tE g W ma)) (hb : PE X b (tE g W mb)) : PE X (.IfExp c a b pos) (tE g W (mIfE tm ma mb)) :=
  pe_mono (pe_ifExp hc ha hb) fun σ H Q ⟨ρ, h, μ, sr, hr, bk⟩ => step (rel := fun _ => eqR) (rel' := VR) (ma := tm) (Q' := Q) sr hr bk fun x a h1 H1 μ1 m1 sr1 hr1 vx bk1 => by
    cases vx
    cases x with
    | true => exact ⟨ρ, h1, μ1, sr1, hr1, bk1⟩
    | false => exact ⟨ρ, h1, μ1, sr1, hr1, bk1⟩
end

/-! ### statements -/
def mSkip : MS := fun ρ h => .nx ρ h
def mSeq (a b : MS) : MS := fun ρ h => match a ρ h with
  | .nx ρ' h' => b ρ' h'
  | o => o
def mBreak : MS := fun ρ h => .bk ρ h
def mCont : MS := fun ρ h => .ct ρ h
def mDrop (e : ME) : MS := fun ρ h => (e ρ h).out ρ fun _ h1 => .nx ρ h1
def mRet (e : ME) : MS := fun ρ h => (e ρ h).out ρ fun d h1 => .rt d h1
def mRetN : MS := fun _ h => .rt .non h
def mIf (c : MT) (a b : MS) : MS := fun ρ h => (c ρ h).out ρ fun x h1 => if x = true then a ρ h1 else b ρ h1
def mAsg (i : Nat) (e : ME) : MS := fun ρ h => (e ρ h).out ρ fun d h1 => .nx (ρ.set i (some d)) h1
section
variable {X : Cx} {g : G} {W : WX} {e : Expr} {me : ME} {pos : Pos} {st : Stmt} {rest : List Stmt} {ms mr : MS}
theorem ss_nil : PSs X [] (tS g W mSkip) := pss_mono pss_nil fun E σ H ⟨ρ, h, μ, sr, hr, bk⟩ => bk σ H μ Mon.refl sr hr
theorem seq_of {E : Ends} {σ : St} {H : Hp} (q : tS g W (mSeq ms mr) E σ H) : tSeq (tS g W ms) (tS g W mr) E σ H := by
  obtain ⟨ρ, h, μ, sr, hr, bk⟩ := q
  refine ⟨ρ, h, μ, sr, hr, ?_⟩
  unfold mSeq at bk
  cases e : ms ρ h with
  | nx ρ' h' =>
    rw [e] at bk
    exact fun σ' H' μ' m sr' hr' => ⟨ρ', h', μ', sr', hr', BkS.mono m bk⟩
  | rt d h' => rw [e] at bk; exact bk
  | bk ρ' h' => rw [e] at bk; exact bk
  | ct ρ' h' => rw [e] at bk; exact bk
  | exc x fs ρ' h' => rw [e] at bk; exact bk
  | bad => rw [e] at bk; exact bk
theorem ss_cons (h1 : PS X st (tS g W ms)) (h2 : PSs X rest (tS g W mr)) : PSs X (st :: rest) (tS g W (mSeq ms mr)) := pss_mono (pss_cons h1 h2) fun E σ H q => seq_of q
theorem ss_one (h1 : PS X st (tS g W ms)) : PSs X [st] (tS g W ms) := pss_one h1
theorem sx_pass : PS X (.Pass pos) (tS g W mSkip) := ps_mono ps_pass fun E σ H ⟨ρ, h, μ, sr, hr, bk⟩ => bk σ H μ Mon.refl sr hr
theorem sx_expr (he : PE X e (tE g W me)) (hs : swapsWith e none pos.line X.env = pure false := by rfl) : PS X (.Expr e pos) (tS g W (mDrop me)) :=
  ps_mono (ps_expr he hs) fun E σ H ⟨ρ, h, μ, sr, hr, bk⟩ => stepS (rel := VR) (ma := me) (E := E) sr hr bk fun x a h1 H1 μ1 m1 sr1 hr1 vx bk1 => bk1 σ H1 μ1 Mon.refl sr1 hr1
theorem sx_ret (he : PE X e (tE g W me)) : PS X (.Return (some e) pos) (tS g W (mRet me)) :=
  ps_mono (ps_ret he) fun E σ H ⟨ρ, h, μ, sr, hr, bk⟩ => stepS (rel := VR) (ma := me) (E := E) sr hr bk fun x a h1 H1 μ1 m1 sr1 hr1 vx bk1 => bk1 x H1 μ1 Mon.refl hr1 vx
theorem sx_if {c : Expr} {a b : List Stmt} {tm : MT} (hc : PT X c (tT g W tm)) (ha : PSs X a (tS g W ms)) (hb : PSs X b (tS g W mr)) : PS X (.If c a b pos) (tS g W (mIf tm ms mr)) :=
  ps_mono (ps_if hc ha hb) fun E σ H ⟨ρ, h, μ, sr, hr, bk⟩ => stepS (rel := fun _ => eqR) (ma := tm) (E := E) sr hr bk fun x a h1 H1 μ1 m1 sr1 hr1 vx bk1 => by
    cases vx
    cases x with
    | true => exact ⟨ρ, h1, μ1, sr1, hr1, bk1⟩
    | false => exact ⟨ρ, h1, μ1, sr1, hr1, bk1⟩
theorem sx_set {i : Nat} {x : Str} {pos' : Pos} (he : PE X e (tE g W me)) (hN : X.N.Nodup) (hi : X.N[i]? = some x := by rfl) (hx : Loc X.env.scope x := by first | exact Or.inl rfl | exact Or.inr rfl) (hs : swapsWith e (some (.Name x pos')) pos.line X.env = pure false := by rfl)
    (hf : X.fn x = true ∨ X.env.scope.names.lookup x = some .local := by first | exact .inl rfl | exact .inr rfl | assumption) : PS X (.Assign [.Name x pos'] e pos) (tS g W (mAsg i me)) :=
  ps_mono (ps_set hN hi hx he hs hf) fun E σ H ⟨ρ, h, μ, sr, hr, bk⟩ => stepS (rel := VR) (ma := me) (E := E) sr hr bk fun v d h1 H1 μ1 m1 sr1 hr1 vx bk1 => bk1 _ H1 μ1 Mon.refl (sr1.set i vx) hr1
end
end Mi

namespace Mi
open PySem L2

/-! ### operators by values -/
def dAdd : D → D → MH → R D
  | .int i, .int j, h => .ok (.int (i + j)) h
  | .str x, .str y, h => if x.length + y.length ≤ 1000000 then .ok (.str (x ++ y)) h else .bad
  | .tup a, .tup b, h => if a.length + b.length ≤ 1000000 then .ok (.tup (a ++ b)) h else .bad
  | .ref i, .ref j, h => match h[i]?, h[j]? with
    | some (.lst a), some (.lst b) => if a.length + b.length ≤ 1000000 then .ok (.ref h.length) (h ++ [.lst (a ++ b)]) else .bad
    | _, _ => .bad
  | _, _, _ => .bad
def dSub : D → D → MH → R D
  | .int i, .int j, h => .ok (.int (i - j)) h
  | _, _, _ => .bad
def dMul : D → D → MH → R D
  | .int i, .int j, h => if (Builtin.Int.intBits i : Int) + (Builtin.Int.intBits j : Int) ≤ 134217728 then .ok (.int (i * j)) h else .bad
  | .str x, .int n, h => if n ≤ 1000000 ∧ -1000000 ≤ n ∧ x.length * n.toNat ≤ 1000000 then .ok (.str (Txt.mul x n)) h else .bad
  | _, _, _ => .bad
def dFdiv : D → D → MH → R D
  | .int i, .int j, h => if 0 < j ∧ j.natAbs.log2 < 9000 then .ok (.int (i / j)) h else .bad
  | _, _, _ => .bad
def dMod : D → D → MH → R D
  | .int i, .int j, h => if 0 < j then .ok (.int (i % j)) h else .bad
  | _, _, _ => .bad
def dPow : D → D → MH → R D
  | .int i, .int j, h => if 0 ≤ j ∧ j ≤ 1000000 ∧ i.natAbs < 2 ^ 64 then .ok (.int (i ^ j.toNat)) h else .bad
  | _, _, _ => .bad
def dShl : D → D → MH → R D
  | .int i, .int j, h => if 0 ≤ j ∧ j ≤ 1000000 ∧ i.natAbs < 2 ^ 64 then .ok (.int (i * 2 ^ j.toNat)) h else .bad
  | _, _, _ => .bad
def dBand : D → D → MH → R D
  | .int i, .int j, h => .ok (.int (Builtin.bitAnd i j)) h
  | _, _, _ => .bad
def dBor : D → D → MH → R D
  | .int i, .int j, h => .ok (.int (Builtin.bitOr i j)) h
  | _, _, _ => .bad
def dLt : D → D → MH → R D
  | .int i, .int j, h => .ok (.bl (decide (i < j))) h
  | _, _, _ => .bad
def dLe : D → D → MH → R D
  | .int i, .int j, h => .ok (.bl (decide (i ≤ j))) h
  | _, _, _ => .bad
def dGt : D → D → MH → R D
  | .int i, .int j, h => .ok (.bl (decide (j < i))) h
  | _, _, _ => .bad
def dGe : D → D → MH → R D
  | .int i, .int j, h => .ok (.bl (decide (j ≤ i))) h
  | _, _, _ => .bad
def dNeg : D → MH → R D
  | .int i, h => .ok (.int (-i)) h
  | _, _ => .bad

section
variable {g : G} {X : Cx}
theorem s2_int {C : Int → Int → Prop} [∀ i j, Decidable (C i j)] {o : Int → Int → Int} {f : D → D → MH → R D} (hi : ∀ i j h, f (.int i) (.int j) h = if C i j then .ok (.int (o i j)) h else .bad) (hb : ∀ a b h, (∀ i j, ¬ (a = .int i ∧ b = .int j)) → f a b h = .bad) :
    S2 g (rI C fun i j => .int (o i j)) f := by
  intro H μ h x y a b Q W hr vx vy bk
  have no : (∀ i j, ¬ (a = .int i ∧ b = .int j)) → rI C (fun i j => .int (o i j)) x y H Q := fun z => by rw [hb a b h z] at bk; exact bk.elim
  cases vx with
  | int i =>
    cases vy with
    | int j =>
      rw [hi] at bk
      by_cases c : C i j
      · rw [if_pos c] at bk
        exact ⟨i, j, rfl, rfl, c, bk.val hr (.int _)⟩
      · rw [if_neg c] at bk; exact bk.elim
    | _ => exact no fun _ _ z => nomatch z.2
  | _ => exact no fun _ _ z => nomatch z.1
theorem s2_int0 {o : Int → Int → V} {o' : Int → Int → D} {f : D → D → MH → R D} (hi : ∀ i j h, f (.int i) (.int j) h = .ok (o' i j) h) (hv : ∀ H μ i j, VR g H μ (o i j) (o' i j)) (hb : ∀ a b h, (∀ i j, ¬ (a = .int i ∧ b = .int j)) → f a b h = .bad) :
    S2 g (rI0 o) f := by
  intro H μ h x y a b Q W hr vx vy bk
  have no : (∀ i j, ¬ (a = .int i ∧ b = .int j)) → rI0 o x y H Q := fun z => by rw [hb a b h z] at bk; exact bk.elim
  cases vx with
  | int i =>
    cases vy with
    | int j =>
      rw [hi] at bk
      exact ⟨i, j, rfl, rfl, bk.val hr (hv _ _ _ _)⟩
    | _ => exact no fun _ _ z => nomatch z.2
  | _ => exact no fun _ _ z => nomatch z.1
theorem int_bad {f : D → D → MH → R D} (hf : ∀ (a b : D) (h : MH), (match a, b with | D.int _, D.int _ => True | _, _ => f a b h = .bad)) : ∀ a b h, (∀ i j, ¬ (a = .int i ∧ b = .int j)) → f a b h = .bad := fun a b h z => by
  have := hf a b h
  split at this
  · exact absurd ⟨rfl, rfl⟩ (z _ _)
  · exact this
theorem s2_sub : S2 g (rI0 fun i j => .int (i - j)) dSub := s2_int0 (o' := fun i j => .int (i - j)) (fun _ _ _ => rfl) (fun _ _ _ _ => .int _) (int_bad fun a b h => by cases a <;> cases b <;> first | trivial | rfl)
theorem s2_fdiv : S2 g (rI CDivW fun i j => .int (i / j)) dFdiv := s2_int (C := fun i j => 0 < j ∧ j.natAbs.log2 < 9000) (o := fun i j => i / j) (fun _ _ _ => rfl) (int_bad fun a b h => by cases a <;> cases b <;> first | trivial | rfl)
theorem s2_mod : S2 g (rI (fun _ j => 0 < j) fun i j => .int (i % j)) dMod := s2_int (C := fun i j => 0 < j) (o := fun i j => i % j) (fun _ _ _ => rfl) (int_bad fun a b h => by cases a <;> cases b <;> first | trivial | rfl)
theorem s2_pow : S2 g (rI CPow fun i j => .int (i ^ j.toNat)) dPow := s2_int (C := fun i j => 0 ≤ j ∧ j ≤ 1000000 ∧ i.natAbs < 2 ^ 64) (o := fun i j => i ^ j.toNat) (fun _ _ _ => rfl) (int_bad fun a b h => by cases a <;> cases b <;> first | trivial | rfl)
theorem s2_shl : S2 g (rI CPow fun i j => .int (i * 2 ^ j.toNat)) dShl := s2_int (C := fun i j => 0 ≤ j ∧ j ≤ 1000000 ∧ i.natAbs < 2 ^ 64) (o := fun i j => i * 2 ^ j.toNat) (fun _ _ _ => rfl) (int_bad fun a b h => by cases a <;> cases b <;> first | trivial | rfl)
theorem s2_lt : S2 g (rI0 fun i j => .bl (decide (i < j))) dLt := s2_int0 (o' := fun i j => .bl (decide (i < j))) (fun _ _ _ => rfl) (fun _ _ _ _ => .bl _) (int_bad fun a b h => by cases a <;> cases b <;> first | trivial | rfl)
theorem s2_le : S2 g (rI0 fun i j => .bl (decide (i ≤ j))) dLe := s2_int0 (o' := fun i j => .bl (decide (i ≤ j))) (fun _ _ _ => rfl) (fun _ _ _ _ => .bl _) (int_bad fun a b h => by cases a <;> cases b <;> first | trivial | rfl)
theorem s2_gt : S2 g (rI0 fun i j => .bl (decide (j < i))) dGt := s2_int0 (o' := fun i j => .bl (decide (j < i))) (fun _ _ _ => rfl) (fun _ _ _ _ => .bl _) (int_bad fun a b h => by cases a <;> cases b <;> first | trivial | rfl)
theorem s2_ge : S2 g (rI0 fun i j => .bl (decide (j ≤ i))) dGe := s2_int0 (o' := fun i j => .bl (decide (j ≤ i))) (fun _ _ _ => rfl) (fun _ _ _ _ => .bl _) (int_bad fun a b h => by cases a <;> cases b <;> first | trivial | rfl)
theorem s1_neg : S1 g (rU fun i => .int (-i)) dNeg := by
  intro H μ h x a Q W hr vx bk
  cases vx with
  | int i => exact ⟨i, rfl, bk.val hr (.int _)⟩
  | _ => exact bk.elim
/-- + -/
def rAddA (K : PySem.W.Frag) : R2 := fun x y H Q => (rI0 (fun i j => .int (i + j)) x y H Q ∨ (∃ i j, x = .str i ∧ y = .str j ∧ i.length + j.length ≤ sizeLine ∧ Q (.str (i ++ j)) H)) ∨ (rCatF K x y H Q ∨ rCat x y H Q)
theorem op_addA : OpR X (binaryOp .Add) (rAddA X.K) := (op_add.or op_add_str).or (op_catF.or op_cat)
theorem nil_of_vrs {H : Hp} {μ : List Addr} {xs : List V} {ds : List D} (h : VRs g H μ xs ds) (e : xs = []) : ds = [] := by subst e; cases h; rfl
theorem s2_add : S2 g (rAddA g.K) dAdd := by
  intro H μ h x y a b Q W hr vx vy bk
  cases vx with
  | int i =>
    cases vy with
    | int j => exact .inl (.inl ⟨i, j, rfl, rfl, bk.val hr (.int _)⟩)
    | _ => exact bk.elim
  | str i =>
    cases vy with
    | str j =>
      simp only [dAdd] at bk
      split at bk
      · rename_i hl
        exact .inl (.inr ⟨i, j, rfl, rfl, sz6 hl, bk.val hr (.str _)⟩)
      · exact bk.elim
    | _ => exact bk.elim
  | @tup p xs ds hs vs =>
    cases vy with
    | @tup q ys es ht vt =>
      simp only [dAdd] at bk
      split at bk
      · rename_i hl
        refine .inr (.inl ⟨p, q, xs, ys, rfl, rfl, hs.sq, ht.sq, by rw [vs.length, vt.length]; exact sz6 hl, fun e => ?_, fun e e' => ?_, fun e e' r ob hr' ho => ?_⟩)
        · rw [nil_of_vrs vs e] at bk
          exact bk.val hr (.tup ht vt)
        · rw [nil_of_vrs vt e', List.append_nil] at bk
          exact bk.val hr (.tup hs vs)
        · exact bk.newT hr (vs.append vt) hr' ho
      · exact bk.elim
    | _ => exact bk.elim
  | @ref p i hi =>
    cases vy with
    | @ref q j hj =>
      simp only [dAdd] at bk
      split at bk
      · rename_i l1 l2 e1 e2
        obtain ⟨xs, h1, v1⟩ := hr.lst hi e1
        obtain ⟨ys, h2, v2⟩ := hr.lst hj e2
        split at bk
        · rename_i hl
          exact .inr (.inr ⟨p, q, xs, ys, rfl, rfl, h1, h2, by rw [v1.length, v2.length]; exact sz6 hl, fun r hr' => bk.newL hr (v1.append v2) hr'⟩)
        · exact bk.elim
      · exact bk.elim
    | _ => exact bk.elim
  | _ => exact bk.elim
/-- * -/
theorem op_mul_str : OpR X (binaryOp .Mult) (fun x y H Q => ∃ z n, x = .str z ∧ y = .int n ∧ MulOk z n ∧ Q (.str (Txt.mul z n)) H) := by
  intro pins s σ H x y v u Q I rx ry h
  obtain ⟨z, n, rfl, rfl, hok, q⟩ := h
  obtain ⟨t, rfl⟩ := rx
  obtain ⟨t', rfl⟩ := ry
  exact PySem.SB.mul hok fun t' k => ⟨.str _, H, I.tok k, ⟨t', rfl⟩, q⟩
def rMulA : R2 := fun x y H Q => rI CMulX (fun i j => .int (i * j)) x y H Q ∨ (∃ z n, x = .str z ∧ y = .int n ∧ MulOk z n ∧ Q (.str (Txt.mul z n)) H)
theorem op_mulA : OpR X (binaryOp .Mult) rMulA := op_mulX.or op_mul_str
theorem mulOk_of {z : Str} {n : Int} (h1 : n ≤ 1000000) (h2 : -1000000 ≤ n) (h3 : z.length * n.toNat ≤ 1000000) : MulOk z n := by
  refine ⟨?_, fun a b => ?_, fun a b => ?_⟩
  · rw [decide_eq_false (by omega), decide_eq_false (by omega)]; rfl
  · have hz : z.length ≤ 1000000 := Nat.le_trans (Nat.le_mul_of_pos_right _ (by omega)) h3
    have : (2 ^ 63 - 1 : Int) / n ≥ (2 ^ 63 - 1) / 1000000 := by
      have h0 : 0 < n := by omega
      rw [ge_iff_le, Int.le_ediv_iff_mul_le h0]
      have : (2 ^ 63 - 1 : Int) / 1000000 * n ≤ (2 ^ 63 - 1 : Int) / 1000000 * 1000000 := Int.mul_le_mul_of_nonneg_left h1 (by decide)
      exact Int.le_trans this (by decide)
    have h4 : ((2 ^ 63 - 1 : Int)) / 1000000 ≥ 1000000 := by decide
    omega
  · unfold Builtin.Str.tooLong
    simp only [decide_eq_false_iff_not]
    first
      | (show ¬ (z.length * n.toNat > sizeLine); rw [sizeLine_eq]; omega)
      | (rw [decide_eq_false_iff_not, sizeLine_eq]; omega)
      | (simp; omega)
theorem s2_mul : S2 g rMulA dMul := by
  intro H μ h x y a b Q W hr vx vy bk
  cases vx with
  | int i =>
    cases vy with
    | int j =>
      simp only [dMul] at bk
      split at bk
      · rename_i c
        exact .inl ⟨i, j, rfl, rfl, c, bk.val hr (.int _)⟩
      · exact bk.elim
    | _ => exact bk.elim
  | str z =>
    cases vy with
    | int n =>
      simp only [dMul] at bk
      split at bk
      · rename_i c
        exact .inr ⟨z, n, rfl, rfl, mulOk_of c.1 c.2.1 c.2.2, bk.val hr (.str _)⟩
      · exact bk.elim
    | _ => exact bk.elim
  | _ => exact bk.elim
end

/-! ### ==, != -/
def allSome {α : Type} : List (Option α) → Option (List α)
  | [] => some []
  | none :: _ => none
  | some a :: r => (allSome r).map (a :: ·)
def pyOf : Nat → MH → D → Option PyData
  | 0, _, _ => none
  | _ + 1, _, .non => some .none
  | _ + 1, _, .bl b => some (.bool b)
  | _ + 1, _, .int i => some (.int i)
  | _ + 1, _, .str x => some (.str x)
  | n + 1, h, .tup l => (allSome (l.map (pyOf n h))).map .tuple
  | n + 1, h, .ref i => (getL h i).bind fun l => (allSome (l.map (pyOf n h))).map .list
  | _ + 1, _, .xo _ _ _ => none
section
variable {g : G} {X : Cx} {H : Hp} {μ : List Addr} {h : MH}
theorem dp_all {f : D → Option PyData} (hf : ∀ d v e, VR g H μ v d → f d = some e → Dp g.K H v e) : ∀ {xs : List V} {ds : List D} {es : List PyData}, VRs g H μ xs ds → allSome (ds.map f) = some es → DpAll g.K H xs es
  | _, _, _, .nil, e => by
    simp only [List.map_nil, allSome, Option.some.injEq] at e
    subst e
    exact .nil
  | _, _, _, .cons (d := d) a b, e => by
    rw [List.map_cons] at e
    cases q : f d with
    | none => rw [q] at e; simp [allSome] at e
    | some z =>
      rw [q] at e
      simp only [allSome, Option.map_eq_some_iff] at e
      obtain ⟨r, e1, rfl⟩ := e
      exact .cons (hf _ _ _ a q) (dp_all hf b e1)
theorem dp_of (hr : HR g H μ h) : ∀ (n : Nat) (d : D) (v : V) (e : PyData), VR g H μ v d → pyOf n h d = some e → Dp g.K H v e
  | 0, _, _, _, _, q => by cases q
  | n + 1, d, v, e, a, q => by
    cases a with
    | xo _ _ _ _ => cases q
    | non => cases q; exact .non
    | bl b => cases q; exact .bl b
    | int b => cases q; exact .int b
    | str b => cases q; exact .str b
    | tup hs vs =>
      simp only [pyOf, Option.map_eq_some_iff] at q
      obtain ⟨es, q, rfl⟩ := q
      exact .tup hs.sq (dp_all (fun d v e a q => dp_of hr n d v e a q) vs q)
    | ref hi =>
      simp only [pyOf, Option.bind_eq_some_iff, Option.map_eq_some_iff] at q
      obtain ⟨l, q1, es, q2, rfl⟩ := q
      obtain ⟨xs, hs, vs⟩ := hr.list hi q1
      exact .lst hs (dp_all (fun d v e a q => dp_of hr n d v e a q) vs q2)
def scalD : D → D → Bool
  | .non, .non => true | .non, .int _ => true | .int _, .non => true | .non, .bl _ => true | .bl _, .non => true | .non, .str _ => true | .str _, .non => true
  | .int _, .int _ => true | .bl _, .bl _ => true | .str _, .str _ => true
  | .int _, .str _ => true | .str _, .int _ => true | .bl _, .str _ => true | .str _, .bl _ => true
  | _, _ => false
def eqD (a b : D) (h : MH) : Option Bool := if scalD a b = true then some (decide (a = b)) else match pyOf 60 h a, pyOf 60 h b with
  | some d, some e => if SeqAt.shaped d = true ∧ SeqAt.shaped e = true then some (PyData.eqv d e) else none
  | _, _ => none
/-- two dicts without pairs -/
def no2 (a b : D) (h : MH) : Bool := match a, b with
  | .ref i, .ref j => decide (h[i]? = some (.dK [])) && decide (h[j]? = some (.dK []))
  | _, _ => false
/-- two tuples, one without items -/
def emp2 (a b : D) : Option Bool := match a, b with
  | .tup l, .tup m => if l = [] ∨ m = [] then some (decide (l.length = m.length)) else none
  | _, _ => none
def dEq (a b : D) (h : MH) : R D := match eqD a b h with
  | some k => .ok (.bl k) h
  | none => match emp2 a b with
    | some k => .ok (.bl k) h
    | none => if no2 a b h = true then .ok (.bl true) h else .bad
def dNe (a b : D) (h : MH) : R D := match eqD a b h with
  | some k => .ok (.bl (!k)) h
  | none => match emp2 a b with
    | some k => .ok (.bl (!k)) h
    | none => .bad
def rEqE (K : PySem.W.Frag) : R2 := fun x y H Q => ∃ a b xs ys, x = .ref a ∧ y = .ref b ∧ SqT K H a xs ∧ SqT K H b ys ∧ (xs = [] ∨ ys = []) ∧ Q (.bl (decide (xs.length = ys.length))) H
def rNeE (K : PySem.W.Frag) : R2 := fun x y H Q => ∃ a b xs ys, x = .ref a ∧ y = .ref b ∧ SqT K H a xs ∧ SqT K H b ys ∧ (xs = [] ∨ ys = []) ∧ Q (.bl (!decide (xs.length = ys.length))) H
theorem emp_ev {us ws : Array Value} {n m : Nat} (h1 : us.size = n) (h2 : ws.size = m) (h0 : n = 0 ∨ m = 0) : ((List.range (min us.size ws.size)).all (fun _ => true) && us.size == ws.size) = decide (n = m) := by
  subst h1 h2
  have : min us.size ws.size = 0 := by omega
  rw [this]
  simp only [List.range_zero, List.all_nil, Bool.true_and]
  rw [Bool.eq_iff_iff, beq_iff_eq, decide_eq_true_iff]
theorem op_eqE (hu : X.A.units + 64 < cLine) : OpR X (compareOp .Eq) (rEqE X.K) := by
  intro pins s σ H x y v u Q I rx ry hh
  obtain ⟨a, b, xs, ys, rfl, rfl, ha, hb, h0, q⟩ := hh
  cases rx
  cases ry
  obtain ⟨ws1, r1, p1, _⟩ := I.tuple ha
  obtain ⟨ws2, r2, p2, _⟩ := I.tuple hb
  have l1 : ws1.toArray.size = xs.length := by rw [List.size_toArray]; exact r1.length.symm
  have l2 : ws2.toArray.size = ys.length := by rw [List.size_toArray]; exact r2.length.symm
  have h00 : xs.length = 0 ∨ ys.length = 0 := by
    rcases h0 with z | z
    · exact .inl (by rw [z]; rfl)
    · exact .inr (by rw [z]; rfl)
  refine SeqAt.eq_tupleAt (e := fun _ => true) p1 p2 (by omega) (fun j j1 j2 => by omega) ?_
  rw [emp_ev l1 l2 h00]
  exact ⟨.bl _, H, I, rfl, q⟩
theorem op_neE (hu : X.A.units + 64 < cLine) : OpR X (compareOp .NotEq) (rNeE X.K) := by
  intro pins s σ H x y v u Q I rx ry hh
  obtain ⟨a, b, xs, ys, rfl, rfl, ha, hb, h0, q⟩ := hh
  cases rx
  cases ry
  obtain ⟨ws1, r1, p1, _⟩ := I.tuple ha
  obtain ⟨ws2, r2, p2, _⟩ := I.tuple hb
  have l1 : ws1.toArray.size = xs.length := by rw [List.size_toArray]; exact r1.length.symm
  have l2 : ws2.toArray.size = ys.length := by rw [List.size_toArray]; exact r2.length.symm
  have h00 : xs.length = 0 ∨ ys.length = 0 := by
    rcases h0 with z | z
    · exact .inl (by rw [z]; rfl)
    · exact .inr (by rw [z]; rfl)
  refine SeqAt.RcNeAt.tuples (e := fun _ => true) p1 p2 (by omega) (fun j j1 j2 => by omega) _ _ _ _ ?_
  rw [emp_ev l1 l2 h00]
  exact ⟨.bl _, H, I, rfl, q⟩
def rEqA (K : PySem.W.Frag) : R2 := fun x y H Q => rEq x y H Q ∨ (rEqD K x y H Q ∨ (rEqV K x y H Q ∨ rEqE K x y H Q))
def rNeA (K : PySem.W.Frag) : R2 := fun x y H Q => rNe x y H Q ∨ (rNeD K x y H Q ∨ rNeE K x y H Q)
theorem op_eqA (hu : X.A.units + 65 < cLine) : OpR X (compareOp .Eq) (rEqA X.K) := op_eq.or ((op_eqD (by omega)).or ((op_eqV (by omega)).or (op_eqE (by omega))))
theorem op_neA (hu : X.A.units + 65 < cLine) : OpR X (compareOp .NotEq) (rNeA X.K) := op_ne.or ((op_neD (by omega)).or (op_neE (by omega)))
theorem scal_of {x y : V} {a b : D} (vx : VR g H μ x a) (vy : VR g H μ y b) (e : scalD a b = true) : scal x y = true ∧ decide (x = y) = decide (a = b) := by
  cases vx <;> cases vy <;> first | (cases e; done) | (refine ⟨rfl, ?_⟩; simp)
theorem eq_of {x y : V} {a b : D} {k : Bool} (hr : HR g H μ h) (vx : VR g H μ x a) (vy : VR g H μ y b) (e : eqD a b h = some k) :
    (scal x y = true ∧ decide (x = y) = k) ∨ ∃ d e, Dp g.K H x d ∧ Dp g.K H y e ∧ SeqAt.shaped d = true ∧ SeqAt.shaped e = true ∧ PyData.eqv d e = k := by
  unfold eqD at e
  split at e
  · rename_i s
    obtain ⟨h1, h2⟩ := scal_of vx vy s
    cases e
    exact .inl ⟨h1, h2⟩
  · split at e
    · rename_i d e' q1 q2
      split at e
      · rename_i s
        cases e
        exact .inr ⟨d, e', dp_of hr _ _ _ _ vx q1, dp_of hr _ _ _ _ vy q2, s.1, s.2, rfl⟩
      · cases e
    · cases e
theorem s2_eq : S2 g (rEqA g.K) dEq := by
  intro H μ h x y a b Q W hr vx vy bk
  unfold dEq at bk
  split at bk
  · rename_i k e
    rcases eq_of hr vx vy e with ⟨h1, h2⟩ | ⟨d, e, h1, h2, h3, h4, h5⟩
    · exact .inl ⟨h1, by rw [h2]; exact bk.val hr (.bl _)⟩
    · exact .inr (.inl ⟨d, e, h1, h2, h3, h4, by rw [h5]; exact bk.val hr (.bl _)⟩)
  · split at bk
    · rename_i k q
      unfold emp2 at q
      split at q
      · rename_i l m
        split at q
        · rename_i z
          cases q
          cases vx with
          | tup hs vs =>
            cases vy with
            | tup ht ws =>
              refine .inr (.inr (.inr ⟨_, _, _, _, rfl, rfl, hs.sq, ht.sq, ?_, ?_⟩))
              · rcases z with z | z
                · subst z; cases vs; exact .inl rfl
                · subst z; cases ws; exact .inr rfl
              · rw [vs.length, ws.length]; exact bk.val hr (.bl _)
        · cases q
      · cases q
    · split at bk
      · rename_i q
        unfold no2 at q
        split at q
        · rename_i i j
          obtain ⟨q1, q2⟩ := Bool.and_eq_true_iff.mp q
          cases vx with
          | ref hi =>
            cases vy with
            | ref hj =>
              obtain ⟨k1, e1, r1⟩ := hr.ob _ _ _ hi (of_decide_eq_true q1)
              obtain ⟨k2, e2, r2⟩ := hr.ob _ _ _ hj (of_decide_eq_true q2)
              cases r1
              cases r2
              exact .inr (.inr (.inl ⟨1, by decide, .inr ⟨_, _, [], [], rfl, rfl, e1, e2, rfl, fun p hp => by simp at hp⟩, bk.val hr (.bl true)⟩))
        · cases q
      · exact bk.elim
theorem s2_ne : S2 g (rNeA g.K) dNe := by
  intro H μ h x y a b Q W hr vx vy bk
  unfold dNe at bk
  split at bk
  · rename_i k e
    rcases eq_of hr vx vy e with ⟨h1, h2⟩ | ⟨d, e, h1, h2, h3, h4, h5⟩
    · exact .inl ⟨h1, by rw [h2]; exact bk.val hr (.bl _)⟩
    · exact .inr (.inl ⟨d, e, h1, h2, h3, h4, by rw [h5]; exact bk.val hr (.bl _)⟩)
  · split at bk
    · rename_i k q
      unfold emp2 at q
      split at q
      · rename_i l m
        split at q
        · rename_i z
          cases q
          cases vx with
          | tup hs vs =>
            cases vy with
            | tup ht ws =>
              refine .inr (.inr ⟨_, _, _, _, rfl, rfl, hs.sq, ht.sq, ?_, ?_⟩)
              · rcases z with z | z
                · subst z; cases vs; exact .inl rfl
                · subst z; cases ws; exact .inr rfl
              · rw [vs.length, ws.length]; exact bk.val hr (.bl _)
        · cases q
      · cases q
    · exact bk.elim
/-! ### is None -/
def dIsN : D → D → MH → R D
  | a, .non, h => .ok (.bl (decide (a = .non))) h
  | _, _, _ => .bad
def dNotN : D → D → MH → R D
  | a, .non, h => .ok (.bl (!decide (a = .non))) h
  | _, _, _ => .bad
theorem non_of {x : V} {a : D} (vx : VR g H μ x a) : decide (x = .non) = decide (a = .non) := by cases vx <;> simp
theorem s2_isN : S2 g (fun x y H Q => y = .non ∧ Q (.bl (decide (x = .non))) H) dIsN := by
  intro H μ h x y a b Q W hr vx vy bk
  cases vy with
  | non => exact ⟨rfl, by rw [non_of vx]; exact bk.val hr (.bl _)⟩
  | _ => simp only [dIsN] at bk; exact bk.elim
theorem s2_notN : S2 g (fun x y H Q => y = .non ∧ Q (.bl (!decide (x = .non))) H) dNotN := by
  intro H μ h x y a b Q W hr vx vy bk
  cases vy with
  | non => exact ⟨rfl, by rw [non_of vx]; exact bk.val hr (.bl _)⟩
  | _ => simp only [dNotN] at bk; exact bk.elim
/-! ### in -/
def flatD : D → Bool
  | .non => true | .bl _ => true | .int _ => true | .str _ => true | _ => false
def eqF : D → D → Bool
  | .non, .non => true
  | .bl a, .bl b => a == b
  | .bl a, .int b => (if a then 1 else 0) == b
  | .int a, .bl b => a == (if b then 1 else 0)
  | .int a, .int b => a == b
  | .str a, .str b => a == b
  | _, _ => false
def seqOf (h : MH) : D → Option (List D)
  | .tup l => some l
  | .ref i => getL h i
  | _ => none
/-- x in y: a sign in a text, a flat thing in a list or tuple of such, a nested one in a list -/
def inD (a b : D) (h : MH) : Option Bool := match a, b with
  | .str x, .str z => match x.cps.toList with
    | [c] => some (decide (c ∈ z.cps.toList))
    | _ => none
  | a, b => match seqOf h b with
    | some l => if flatD a = true ∧ l.all flatD = true then some (l.any fun y => eqF y a) else match pyOf 60 h a, pyOf 60 h b with
      | some d, some (.list es) => if SeqAt.shaped d = true ∧ SeqAt.shaped (.list es) = true then some (es.any fun z => PyData.eqv z d) else none
      | _, _ => none
    | none => none
def dIn (a b : D) (h : MH) : R D := match inD a b h with
  | some k => .ok (.bl k) h
  | none => .bad
def dNotIn (a b : D) (h : MH) : R D := match inD a b h with
  | some k => .ok (.bl (!k)) h
  | none => .bad
def rInA (K : PySem.W.Frag) : R2 := fun x y H Q => (∃ (c : Nat) (z : Str), x = .str ⟨#[c]⟩ ∧ y = .str z ∧ Q (.bl (decide (c ∈ z.cps.toList))) H) ∨ (rIn K false x y H Q ∨ rInD K x y H Q)
def rNotInA (K : PySem.W.Frag) : R2 := fun x y H Q => (∃ (c : Nat) (z : Str), x = .str ⟨#[c]⟩ ∧ y = .str z ∧ Q (.bl (!decide (c ∈ z.cps.toList))) H) ∨ (rIn K true x y H Q ∨ rNotInD K x y H Q)
theorem op_inA (hu : X.A.units + 65 < cLine) : OpR X (compareOp .In) (rInA X.K) := op_in_sign.or (op_in_seq.or (op_inD hu))
theorem op_notInA (hu : X.A.units + 65 < cLine) : OpR X (compareOp .NotIn) (rNotInA X.K) := op_notIn_sign.or (op_notIn_seq.or (op_notInD hu))
theorem flat_of {x : V} {a : D} (vx : VR g H μ x a) : flatV x = flatD a := by cases vx <;> rfl
theorem flats_of : ∀ {xs : List V} {ds : List D}, VRs g H μ xs ds → xs.all flatV = ds.all flatD
  | _, _, .nil => rfl
  | _, _, .cons a b => by rw [List.all_cons, List.all_cons, flat_of a, flats_of b]
theorem eqF_of {x y : V} {a b : D} (vx : VR g H μ x a) (vy : VR g H μ y b) : eqV x y = eqF a b := by cases vx <;> cases vy <;> rfl
theorem any_of {x : V} {a : D} (vx : VR g H μ x a) : ∀ {xs : List V} {ds : List D}, VRs g H μ xs ds → inV x xs = ds.any fun y => eqF y a
  | _, _, .nil => rfl
  | _, _, .cons c b => by
    show (eqV _ x || inV x _) = _
    rw [List.any_cons, eqF_of c vx, any_of vx b]
theorem HR.seq {p : Addr} {b : D} {l : List D} (hr : HR g H μ h) (vb : VR g H μ (.ref p) b) (e : seqOf h b = some l) : ∃ xs, (SqL g.K H p xs ∨ SqT g.K H p xs) ∧ VRs g H μ xs l := by
  cases vb with
  | ref hi => obtain ⟨xs, h1, h2⟩ := hr.list hi e; exact ⟨xs, .inl h1, h2⟩
  | tup hs vs => cases e; exact ⟨_, .inr hs.sq, vs⟩
  | xo _ _ _ _ => cases e
theorem in_of {x y : V} {a b : D} {k : Bool} (hr : HR g H μ h) (vx : VR g H μ x a) (vy : VR g H μ y b) (e : inD a b h = some k) :
    (∃ (c : Nat) (z : Str), x = .str ⟨#[c]⟩ ∧ y = .str z ∧ decide (c ∈ z.cps.toList) = k) ∨ (∃ p xs, y = .ref p ∧ (SqL g.K H p xs ∨ SqT g.K H p xs) ∧ flatV x = true ∧ xs.all flatV = true ∧ inV x xs = k) ∨
      ∃ d ds, Dp g.K H x d ∧ Dp g.K H y (.list ds) ∧ SeqAt.shaped d = true ∧ SeqAt.shaped (.list ds) = true ∧ (ds.any fun z => PyData.eqv z d) = k := by
  unfold inD at e
  split at e
  · rename_i x' z
    cases vx
    cases vy
    split at e
    · rename_i c q
      cases e
      refine .inl ⟨c, z, ?_, rfl, rfl⟩
      obtain ⟨⟨cs⟩⟩ := x'
      cases q
      rfl
    · cases e
  · split at e
    · rename_i l q
      have hy : ∃ p, y = .ref p := by cases vy <;> first | exact ⟨_, rfl⟩ | cases q
      obtain ⟨p, rfl⟩ := hy
      obtain ⟨xs, h1, h2⟩ := hr.seq vy q
      split at e
      · rename_i c
        cases e
        exact .inr (.inl ⟨p, xs, rfl, h1, by rw [flat_of vx]; exact c.1, by rw [flats_of h2]; exact c.2, any_of vx h2⟩)
      · split at e
        · rename_i d es q1 q2
          split at e
          · rename_i c
            cases e
            exact .inr (.inr ⟨d, es, dp_of hr _ _ _ _ vx q1, dp_of hr _ _ _ _ vy q2, c.1, c.2, rfl⟩)
          · cases e
        · cases e
    · cases e
theorem s2_in : S2 g (rInA g.K) dIn := by
  intro H μ h x y a b Q W hr vx vy bk
  unfold dIn at bk
  split at bk
  · rename_i k e
    rcases in_of hr vx vy e with ⟨c, z, h1, h2, h3⟩ | ⟨p, xs, h1, h2, h3, h4, h5⟩ | ⟨d, e, h1, h2, h3, h4, h5⟩
    · exact .inl ⟨c, z, h1, h2, by rw [h3]; exact bk.val hr (.bl _)⟩
    · exact .inr (.inl ⟨p, xs, h1, h2, h3, h4, by rw [if_neg Bool.false_ne_true, h5]; exact bk.val hr (.bl _)⟩)
    · exact .inr (.inr ⟨d, e, h1, h2, h3, h4, by rw [h5]; exact bk.val hr (.bl _)⟩)
  · exact bk.elim
theorem s2_notIn : S2 g (rNotInA g.K) dNotIn := by
  intro H μ h x y a b Q W hr vx vy bk
  unfold dNotIn at bk
  split at bk
  · rename_i k e
    rcases in_of hr vx vy e with ⟨c, z, h1, h2, h3⟩ | ⟨p, xs, h1, h2, h3, h4, h5⟩ | ⟨d, e, h1, h2, h3, h4, h5⟩
    · exact .inl ⟨c, z, h1, h2, by rw [h3]; exact bk.val hr (.bl _)⟩
    · exact .inr (.inl ⟨p, xs, h1, h2, h3, h4, by rw [if_pos rfl, h5]; exact bk.val hr (.bl _)⟩)
    · exact .inr (.inr ⟨d, e, h1, h2, h3, h4, by rw [h5]; exact bk.val hr (.bl _)⟩)
  · exact bk.elim
/-! ### places -/
def dIx (a b : D) (h : MH) : R D := match b with
  | .int i => match a with
    | .str z => if z.length ≤ 1000000 then match atI z.cps.toList i with
      | some c => .ok (.str ⟨#[c]⟩) h
      | none => .bad else .bad
    | a => match seqOf h a with
      | some l => match atI l i with
        | some d => .ok d h
        | none => .bad
      | none => .bad
  | _ => .bad
theorem atI_of {xs : List V} {ds : List D} {i : Int} {d : D} (vs : VRs g H μ xs ds) (e : atI ds i = some d) : ∃ v, atI xs i = some v ∧ VR g H μ v d := by
  unfold atI at e ⊢
  rw [vs.length]
  cases q : ixN ds.length i with
  | none => rw [q] at e; cases e
  | some j =>
    rw [q] at e
    exact vs.get e
theorem s2_ix : S2 g (rIx g.K) dIx := by
  intro H μ h x y a b Q W hr vx vy bk
  cases vy with
  | int i =>
    cases vx with
    | str z =>
      simp only [dIx] at bk
      split at bk
      · rename_i hz
        split at bk
        · rename_i c e
          exact .inr (.inr ⟨z, i, c, rfl, rfl, sz6 hz, e, bk.val hr (.str _)⟩)
        · exact bk.elim
      · exact bk.elim
    | @tup p xs ds hs vs =>
      simp only [dIx, seqOf] at bk
      split at bk
      · rename_i d e
        obtain ⟨v, h1, h2⟩ := atI_of vs e
        exact .inr (.inl ⟨p, xs, i, v, rfl, rfl, hs.sq, h1, bk.val hr h2⟩)
      · exact bk.elim
    | @ref p j hj =>
      simp only [dIx, seqOf] at bk
      split at bk
      · rename_i l q
        obtain ⟨xs, hs, vs⟩ := hr.list hj q
        split at bk
        · rename_i d e
          obtain ⟨v, h1, h2⟩ := atI_of vs e
          exact .inl ⟨p, xs, i, v, rfl, rfl, hs, h1, bk.val hr h2⟩
        · exact bk.elim
      · exact bk.elim
    | _ => simp only [dIx, seqOf] at bk; exact bk.elim
  | _ => simp only [dIx] at bk; exact bk.elim
end
end Mi

namespace Mi
open PySem L2

/-! ### slices -/
def mNo : MP := fun _ h => .ok none h
def mSome (a : ME) : MP := fun ρ h => (a ρ h).bind fun x h1 => match x with
  | .int i => .ok (some i) h1
  | _ => .bad
def cutD (xs : List D) (lo hi : Option Int) : List D := (xs.drop (HT.sIx xs.length 0 lo)).take (HT.sIx xs.length xs.length hi - HT.sIx xs.length 0 lo)
def dSl (a : D) (lo hi : Option Int) (h : MH) : R D := match a with
  | .str z => if z.length ≤ 1000000 then .ok (.str (cutS z lo hi)) h else .bad
  | .tup l => .ok (.tup (cutD l lo hi)) h
  | .ref i => match getL h i with
    | some l => .ok (.ref h.length) (h ++ [.lst (cutD l lo hi)])
    | none => .bad
  | _ => .bad
def mSl (a : ME) (lo hi : MP) : ME := fun ρ h => (a ρ h).bind fun x h1 => (lo ρ h1).bind fun l h2 => (hi ρ h2).bind fun u h3 => dSl x l u h3
section
variable {X : Cx} {g : G} {W : WX} {a b e : Expr} {ma mb : ME} {pos p2 : Pos} {es : List Expr} {mr : MA} {lo hi : Option Expr} {ml mh : MP}
theorem sp_none : PO X none (tP g W mNo) := ⟨fun pins s σ H Q I ⟨ρ, h, μ, sr, hr, bk⟩ => (po_none (X := X)).run pins s σ H Q I (bk none H μ Mon.refl hr rfl)⟩
theorem sp_some (he : PE X e (tE g W ma)) : PO X (some e) (tP g W (mSome ma)) := ⟨fun pins s σ H Q I ⟨ρ, h, μ, sr, hr, bk⟩ => (po_some he).run pins s σ H Q I (step (rel := VR) (rel' := fun _ => opR) (ma := ma) (Q' := Q) sr hr bk fun x d h1 H1 μ1 m1 sr1 hr1 vx bk1 => by
  cases vx with
  | int i => exact ⟨i, rfl, bk1 _ H1 μ1 Mon.refl hr1 rfl⟩
  | _ => exact bk1.elim)⟩
theorem slR_or {r r' : V → Option Int → Option Int → Hp → VK → Prop} (h : SlR X r) (h' : SlR X r') : SlR X (fun x l u H Q => r x l u H Q ∨ r' x l u H Q) := by
  intro pins s σ H x v vl vu lo hi sl Q I rx hs pl pu q
  rcases q with q | q
  · exact h pins s σ H x v vl vu lo hi sl Q I rx hs pl pu q
  · exact h' pins s σ H x v vl vu lo hi sl Q I rx hs pl pu q
theorem cut_of {H : Hp} {μ : List Addr} {xs : List V} {ds : List D} (vs : VRs g H μ xs ds) (l u : Option Int) : VRs g H μ (cutV xs l u) (cutD ds l u) := by
  unfold cutV cutD
  rw [vs.length]
  exact (vs.drop _).take _
theorem cut_whole {ds : List D} {l u : Option Int} (h : HT.sIx ds.length 0 l = 0 ∧ HT.sIx ds.length ds.length u = ds.length) : cutD ds l u = ds := by
  unfold cutD
  rw [h.1, h.2]
  simp
theorem se_slice (he : PE X a (tE g W ma)) (hl : PO X lo (tP g W ml)) (hu : PO X hi (tP g W mh)) (hK : X.K = g.K := by rfl) : PE X (.Subscript a (.Slice lo hi none p2) pos) (tE g W (mSl ma ml mh)) :=
  pe_mono (pe_slice (slR_or sl_str (slR_or sl_tupF sl_list)) he hl hu) fun σ H Q ⟨ρ, h, μ, sr, hr, bk⟩ =>
    step (rel := VR) (rel' := VR) (ma := ma) (Q' := Q) sr hr bk fun x d h1 H1 μ1 m1 sr1 hr1 vx bk1 =>
      step (rel := fun _ => opR) (rel' := VR) (ma := ml) (Q' := Q) sr1 hr1 bk1 fun l l' h2 H2 μ2 m2 sr2 hr2 vl bk2 =>
        step (rel := fun _ => opR) (rel' := VR) (ma := mh) (Q' := Q) sr2 hr2 bk2 fun u u' h3 H3 μ3 m3 sr3 hr3 vu bk3 => by
          cases vl
          cases vu
          have vx3 := (vx.mono m2).mono m3
          rw [hK]
          cases vx3 with
          | str z =>
            simp only [dSl] at bk3
            split at bk3
            · rename_i hz
              exact .inl ⟨z, rfl, sz6 hz, bk3.val hr3 (.str _)⟩
            · exact bk3.elim
          | @tup p xs ds hs vs =>
            refine .inr (.inl ⟨p, xs, rfl, hs.sq, fun w => ?_, fun _ p ob hp ho => bk3.newT hr3 (cut_of vs _ _) hp ho⟩)
            rw [vs.length] at w
            rw [dSl, cut_whole w] at bk3
            exact bk3.val hr3 (.tup hs vs)
          | @ref p i hi =>
            simp only [dSl] at bk3
            split at bk3
            · rename_i l q
              obtain ⟨xs, hs, vs⟩ := hr3.list hi q
              exact .inr (.inr ⟨p, xs, rfl, hs, fun p hp => bk3.newL hr3 (cut_of vs _ _) hp⟩)
            · exact bk3.elim
          | _ => exact bk3.elim
end

/-! ### built-ins by values -/
def dLen : List D → MH → R D
  | [.str z], h => if z.length ≤ 1000000 then .ok (.int z.length) h else .bad
  | [.tup l], h => .ok (.int l.length) h
  | [.ref i], h => match getL h i with
    | some l => .ok (.int l.length) h
    | none => .bad
  | _, _ => .bad
def dAbs : List D → MH → R D
  | [.int i], h => .ok (.int (if i < 0 then -i else i)) h
  | _, _ => .bad
def dMax : List D → MH → R D
  | [.int i, .int j], h => .ok (.int (if j > i then j else i)) h
  | _, _ => .bad
def dMin : List D → MH → R D
  | [.int i, .int j], h => .ok (.int (if j < i then j else i)) h
  | _, _ => .bad
def dInt : List D → MH → R D
  | [.int i], h => .ok (.int i) h
  | [.bl b], h => .ok (.int (if b then 1 else 0)) h
  | _, _ => .bad
def dStr : List D → MH → R D
  | [.int i], h => if i.natAbs.log2 < 1920 then .ok (.str (toString i : String)) h else .bad
  | _, _ => .bad
def dList : List D → MH → R D
  | [a], h => match seqOf h a with
    | some l => .ok (.ref h.length) (h ++ [.lst l])
    | none => .bad
  | _, _ => .bad
def dTuple : List D → MH → R D
  | [a], h => match seqOf h a with
    | some l => .ok (.tup l) h
    | none => .bad
  | _, _ => .bad
def allBl : List D → Option (List Bool)
  | [] => some []
  | .bl b :: r => (allBl r).map (b :: ·)
  | _ => none
def dAny : List D → MH → R D
  | [.ref i], h => match (getL h i).bind allBl with
    | some bs => .ok (.bl (bs.any id)) h
    | none => .bad
  | _, _ => .bad
def dAll : List D → MH → R D
  | [.ref i], h => match (getL h i).bind allBl with
    | some bs => .ok (.bl (bs.all id)) h
    | none => .bad
  | _, _ => .bad
section
variable {g : G} {X : Cx}
theorem sn1 {r : List V → Hp → VK → Prop} {f : List D → MH → R D} (h1 : ∀ H μ h x a Q W, HR g H μ h → VR g H μ x a → Bk (VR g) g H μ (f [a] h) Q W → r [x] H Q) (h0 : ∀ h, f [] h = .bad) (h2 : ∀ a b l h, f (a :: b :: l) h = .bad) : SN g r f := by
  intro H μ h xs ds Q W hr vs bk
  cases vs with
  | nil => rw [h0] at bk; exact bk.elim
  | cons va t =>
    cases t with
    | nil => exact h1 H μ h _ _ Q W hr va bk
    | cons vb t => rw [h2] at bk; exact bk.elim
theorem sn_len : SN g (fun xs H Q => ∃ x n, xs = [x] ∧ LenV g.K x H n ∧ Q (.int n) H) dLen := sn1 (fun H μ h x a Q W hr va bk => by
  cases va with
  | str z =>
    simp only [dLen] at bk
    split at bk
    · rename_i hz; exact ⟨_, _, rfl, ⟨sz6 hz, rfl⟩, bk.val hr (.int _)⟩
    · exact bk.elim
  | @tup p xs ds hs vs => exact ⟨_, _, rfl, .inr ⟨xs, hs.sq, rfl⟩, by rw [vs.length]; exact bk.val hr (.int _)⟩
  | @ref p i hi =>
    simp only [dLen] at bk
    split at bk
    · rename_i l q
      obtain ⟨xs, hs, vs⟩ := hr.list hi q
      exact ⟨_, _, rfl, .inl ⟨xs, hs, rfl⟩, by rw [vs.length]; exact bk.val hr (.int _)⟩
    · exact bk.elim
  | _ => exact bk.elim) (fun _ => rfl) (fun a b l h => by simp [dLen])
theorem sn_int : SN g (fun xs H Q => (∃ i, xs = [.int i] ∧ Q (.int i) H) ∨ ∃ k, xs = [.bl k] ∧ Q (.int (if k then 1 else 0)) H) dInt := sn1 (fun H μ h x a Q W hr va bk => by
  cases va with
  | int i => exact .inl ⟨i, rfl, bk.val hr (.int _)⟩
  | bl b => exact .inr ⟨b, rfl, bk.val hr (.int _)⟩
  | _ => exact bk.elim) (fun _ => rfl) (fun a b l h => by simp [dInt])
theorem sn_list : SN g (fun xs H Q => ∃ p ys, xs = [.ref p] ∧ (SqL g.K H p ys ∨ SqT g.K H p ys) ∧ ∀ l, H l = none → Q (.ref l) (upd H l (.lst ys))) dList := sn1 (fun H μ h x a Q W hr va bk => by
  simp only [dList] at bk
  split at bk
  · rename_i l q
    have hy : ∃ p, x = .ref p := by cases va <;> first | exact ⟨_, rfl⟩ | cases q
    obtain ⟨p, rfl⟩ := hy
    obtain ⟨xs, h1, h2⟩ := hr.seq va q
    exact ⟨p, xs, rfl, h1, fun l hl => bk.newL hr h2 hl⟩
  · exact bk.elim) (fun _ => rfl) (fun a b l h => by simp [dList])
theorem sn_tuple : SN g (rTupF g.K) dTuple := sn1 (fun H μ h x a Q W hr va bk => by
  cases va with
  | @tup p xs ds hs vs => exact ⟨p, xs, rfl, .inr ⟨hs.sq, bk.val hr (.tup hs vs)⟩⟩
  | @ref p i hi =>
    simp only [dTuple, seqOf] at bk
    split at bk
    · rename_i l q
      obtain ⟨xs, hs, vs⟩ := hr.list hi q
      exact ⟨p, xs, rfl, .inl ⟨hs, fun l ob hl ho => bk.newT hr vs hl ho⟩⟩
    · exact bk.elim
  | _ => simp only [dTuple, seqOf] at bk; exact bk.elim) (fun _ => rfl) (fun a b l h => by simp [dTuple])
theorem bls_of {H : Hp} {μ : List Addr} : ∀ {xs : List V} {ds : List D} {bs : List Bool}, VRs g H μ xs ds → allBl ds = some bs → xs = bs.map V.bl
  | _, _, _, .nil, e => by cases e; rfl
  | _, _, _, .cons (d := d) a b, e => by
    cases a with
    | bl k =>
      simp only [allBl, Option.map_eq_some_iff] at e
      obtain ⟨r, e, rfl⟩ := e
      rw [bls_of b e]; rfl
    | _ => cases e
theorem sn_all : SN g (rAll g.K) dAll := sn1 (fun H μ h x a Q W hr va bk => by
  cases va with
  | @ref p i hi =>
    simp only [dAll] at bk
    split at bk
    · rename_i bs q
      obtain ⟨l, q1, q2⟩ := Option.bind_eq_some_iff.mp q
      obtain ⟨xs, hs, vs⟩ := hr.list hi q1
      exact ⟨p, bs, rfl, by rw [← bls_of vs q2]; exact hs, bk.val hr (.bl _)⟩
    · exact bk.elim
  | _ => exact bk.elim) (fun _ => rfl) (fun a b l h => by simp [dAll])
theorem sn2i {r : List V → Hp → VK → Prop} {f : List D → MH → R D} (h1 : ∀ H μ h i j Q W, HR g H μ h → Bk (VR g) g H μ (f [.int i, .int j] h) Q W → r [.int i, .int j] H Q) (h2 : ∀ ds h, (∀ i j, ds ≠ [.int i, .int j]) → f ds h = .bad) : SN g r f := by
  intro H μ h xs ds Q W hr vs bk
  have no : (∀ i j, ds ≠ [.int i, .int j]) → r xs H Q := fun z => by rw [h2 ds h z] at bk; exact bk.elim
  cases vs with
  | nil => exact no fun _ _ z => nomatch z
  | cons va t =>
    cases va with
    | int i =>
      cases t with
      | nil => exact no fun _ _ z => nomatch z
      | cons vb t =>
        cases vb with
        | int j =>
          cases t with
          | nil => exact h1 H μ h i j Q W hr bk
          | cons _ _ => exact no fun _ _ z => nomatch z
        | _ => exact no fun _ _ z => nomatch z
    | _ => exact no fun _ _ z => nomatch z
theorem two_bad {f : List D → MH → R D} (hf : ∀ (ds : List D) (h : MH), match ds with | [D.int _, D.int _] => True | _ => f ds h = .bad) : ∀ ds h, (∀ i j, ds ≠ [.int i, .int j]) → f ds h = .bad := fun ds h z => by
  have := hf ds h
  split at this
  · exact absurd rfl (z _ _)
  · exact this
theorem sn_max : SN g (fun xs H Q => ∃ i j, xs = [.int i, .int j] ∧ Q (.int (if j > i then j else i)) H) dMax := sn2i (fun H μ h i j Q W hr bk => ⟨i, j, rfl, bk.val hr (.int _)⟩) (two_bad fun ds h => by split <;> first | trivial | (unfold dMax; split <;> first | rfl | simp_all))
theorem sn_min : SN g (fun xs H Q => ∃ i j, xs = [.int i, .int j] ∧ Q (.int (if j < i then j else i)) H) dMin := sn2i (fun H μ h i j Q W hr bk => ⟨i, j, rfl, bk.val hr (.int _)⟩) (two_bad fun ds h => by split <;> first | trivial | (unfold dMin; split <;> first | rfl | simp_all))
end

/-! ### isinstance against built-in types -/
def tyName (h : MH) : D → Option String
  | .non => some "NoneType" | .bl _ => some "bool" | .int _ => some "int" | .str _ => some "str" | .tup _ => some "tuple"
  | .ref i => match h[i]? with
    | some (.lst _) => some "list"
    | some (.rol _) => some "list"
    | some (.dK _) => some "dict"
    | _ => none
  | .xo _ _ _ => none
def mIsi (T : String) (a : ME) : ME := fun ρ h => (a ρ h).bind fun x h1 => match (tyName h1 x).bind fun n => kitB n T with
  | some b => .ok (.bl b) h1
  | none => .bad
section
variable {X : Cx} {g : G} {W : WX} {a : Expr} {ma : ME} {pos : Pos}
theorem HR.ty {H : Hp} {μ : List Addr} {h : MH} {x : V} {d : D} {n : String} (hr : HR g H μ h) (vx : VR g H μ x d) (e : tyName h d = some n) : TyX g.K H x (.type n) := by
  cases vx with
  | xo _ _ _ _ => cases e
  | non => cases e; exact .base .non
  | bl b => cases e; exact .base (.bl b)
  | int i => cases e; exact .base (.int i)
  | str z => cases e; exact .base (.str z)
  | tup hs vs =>
    cases e
    rcases hs with ⟨o, _, hs⟩ | ⟨o, its, k, h1, h2, h3⟩
    · exact .fTuple hs
    · exact .kTuple h1 h2
  | ref hi =>
    simp only [tyName] at e
    split at e
    · rename_i l q
      cases e
      obtain ⟨xs, h1, _⟩ := hr.ob _ _ _ hi q
      exact .base (.lst h1)
    · rename_i l q
      cases e
      obtain ⟨xs, h1, _⟩ := hr.ob _ _ _ hi q
      rcases h1 with ⟨o, h1⟩ | ⟨o, its, k, h1, h2, h3⟩
      · exact .base (.frz h1)
      · exact .kList h1 h2
    · rename_i l q
      cases e
      obtain ⟨xs, h1, _⟩ := hr.ob _ _ _ hi q
      exact .base (.dK h1)
    · cases e
theorem se_isi {T : Str} {n : String} {p p2 : Pos} (ha : PE X a (tE g W ma)) (hm : X.mg "isinstance" = none) (hmT : X.mg T = none) (hvT : bootBuiltins T = some (.type n)) (hnT : T ≠ "__name__" := by decide) (hdT : (T == ("__debug__" : Str)) = false := by decide) (hg : Gl X "isinstance" := by rfl) (hgT : Gl X T := by rfl)
    (hK : X.K = g.K := by rfl)
    (s1 : starEach [a, .Name T p2] X.env = (false, eval a X.env) :: starEach [.Name T p2] X.env := by rfl) (s2 : starEach [.Name T p2] X.env = (false, eval (.Name T p2) X.env) :: starEach [] X.env := by rfl)
    (hpl : (backTo pos (starEach [.Name T p2] X.env)).any (·.1) = false := by rfl) : PE X (.Call (.Name "isinstance" p) [a, .Name T p2] [] pos) (tE g W (mIsi n ma)) :=
  pe_mono (pe_callB call_isi hg hm (by decide +kernel) (pa_cons ha (pa_cons (pe_bltn (v := .ty n) hgT hmT hvT rfl hnT hdT) pa_nil s2) s1) (by decide) (by decide) s1 hpl) fun σ H Q ⟨ρ, h, μ, sr, hr, bk⟩ =>
    step (rel := VR) (rel' := VR) (ma := ma) (Q' := Q) sr hr bk fun x d h1 H1 μ1 m1 sr1 hr1 vx bk1 => by
      split at bk1
      · rename_i b q
        obtain ⟨t, q1, q2⟩ := Option.bind_eq_some_iff.mp q
        refine ⟨x, .ty n, .type t, .type n, b, rfl, .ty n, ?_, kit_ty q2, bk1.val hr1 (.bl b)⟩
        rw [hK]
        exact hr1.ty vx q1
      · exact bk1.elim
end

/-! ### methods of built-in types -/
section
variable {X : Cx} {g : G} {W : WX} {o e : Expr} {mo : ME} {es : List Expr} {mr : MA} {name : Str} {apos cpos : Pos} {T id : String} {r : V → List V → Hp → VK → Prop} {f : D → List D → MH → R D} {ty : D → MH → Bool}
/-- how the type is seen -/
def STy (g : G) (T : String) (ty : D → MH → Bool) : Prop := ∀ (H : Hp) (μ : List Addr) (h : MH) (x : V) (a : D), HR g H μ h → VR g H μ x a → ty a h = true → tyV g.K T x H
theorem sty_list : STy g "list" isListD := fun H μ h x a hr va e => by
  cases va with
  | ref hi =>
    obtain ⟨l, q⟩ := Option.isSome_iff_exists.mp e
    obtain ⟨xs, hs, _⟩ := hr.list hi q
    exact .inl ⟨rfl, xs, hs⟩
  | _ => cases e
theorem sty_str : STy g "str" isStrD := fun H μ h x a hr va e => by
  cases va with
  | str z => exact (rfl : "str" = "str")
  | _ => cases e
theorem se_bm (pa : PlainAttrs T) (slot : Slot T name id) (hty : typeOf (.builtin id) = pure (.type "method_descriptor")) (hm : MtR X id r) (st : STy g T ty) (hs : SM g r f) (ho : PE X o (tE g W mo)) (ha : PA X (e :: es) (tA g W mr)) (hK : X.K = g.K := by rfl)
    (hbase : attributeBase o name X.env (eval o X.env) = eval o X.env := by rfl)
    (hfew : ((backTo cpos (starEach (e :: es) X.env)).all (fun x => !x.1) && (backToKw cpos (keywordEach [] X.env)).all (fun x => x.1.isSome)
      && decide ((e :: es).length + ([] : List Keyword).length + (if ([] : List Keyword).isEmpty then 0 else 1) < 30)) = true := by rfl)
    (hline : (apos.endLine == cpos.line) = true := by rfl) (hse : starEach (e :: es) X.env = (false, eval e X.env) :: starEach es X.env := by rfl) (hplain : (backTo cpos (starEach es X.env)).any (·.1) = false := by rfl) :
    PE X (.Call (.Attribute o name apos) (e :: es) [] cpos) (tE g W (mMeth ty f mo mr)) :=
  pe_mono (pe_bm pa slot hty hm ho ha hbase hfew hline hse hplain) fun σ H Q ⟨ρ, h, μ, sr, hr, bk⟩ =>
    step (rel := VR) (rel' := VR) (ma := mo) (Q' := Q) sr hr bk fun x d h1 H1 μ1 m1 sr1 hr1 vx bk1 => by
      split at bk1
      · rename_i ht
        refine ⟨by rw [hK]; exact st H1 μ1 h1 x d hr1 vx ht, ?_⟩
        exact step (rel := VRs) (rel' := VR) (ma := mr) (Q' := Q) sr1 hr1 bk1 fun xs ds h2 H2 μ2 m2 sr2 hr2 vs bk2 => hs H2 μ2 h2 x xs d ds Q _ hr2 (vx.mono m2) vs bk2
      · exact bk1.elim
def dAppend : D → List D → MH → R D
  | .ref i, [d], h => match h[i]? with
    | some (.lst l) => if l.length < 1000000 then .ok .non (h.set i (.lst (l ++ [d]))) else .bad
    | _ => .bad
  | _, _, _ => .bad
theorem sm_append : SM g rAppend dAppend := by
  intro H μ h x xs a ds Q W hr va vs bk
  unfold dAppend at bk
  split at bk
  · rename_i i d
    cases va with
    | @ref p _ hi =>
      cases vs with
      | cons vd t =>
        cases t
        split at bk
        · rename_i l q
          split at bk
          · rename_i hl
            obtain ⟨ys, h1, h2⟩ := hr.lst hi q
            exact ⟨p, ys, _, rfl, rfl, h1, by rw [h2.length]; exact sz6' hl, bk.setL hr hi q h1 (h2.append (.one vd)) .non⟩
          · exact bk.elim
        · exact bk.elim
  · exact bk.elim
def dExtend : D → List D → MH → R D
  | .ref i, [.ref j], h => match h[i]?, h[j]? with
    | some (.lst l), some (.lst m) => if l.length + m.length ≤ 1000000 then .ok .non (h.set i (.lst (l ++ m))) else .bad
    | _, _ => .bad
  | _, _, _ => .bad
def dPop : D → List D → MH → R D
  | .ref i, [], h => match h[i]? with
    | some (.lst l) => match l[l.length - 1]? with
      | some d => .ok d (h.set i (.lst l.dropLast))
      | none => .bad
    | _ => .bad
  | _, _, _ => .bad
def allStr : List D → Option (List Str)
  | [] => some []
  | .str b :: r => (allStr r).map (b :: ·)
  | _ => none
theorem strs_of {H : Hp} {μ : List Addr} : ∀ {xs : List V} {ds : List D} {bs : List Str}, VRs g H μ xs ds → allStr ds = some bs → xs = bs.map V.str
  | _, _, _, .nil, e => by cases e; rfl
  | _, _, _, .cons (d := d) a b, e => by
    cases a with
    | str k =>
      simp only [allStr, Option.map_eq_some_iff] at e
      obtain ⟨r, e, rfl⟩ := e
      rw [strs_of b e]; rfl
    | _ => cases e
def dJoin : D → List D → MH → R D
  | .str a, [b], h => match (seqOf h b).bind allStr with
    | some ys => if (ys.map (·.length)).sum + ys.length * a.length ≤ 1000000 then .ok (.str (Txt.join a ys)) h else .bad
    | none => .bad
  | _, _, _ => .bad
theorem sm_join : SM g (fun x xs H Q => ∃ a p, ∃ ys : List Str, x = .str a ∧ xs = [.ref p] ∧ (SqL g.K H p (ys.map V.str) ∨ SqT g.K H p (ys.map V.str)) ∧ (ys.map (·.length)).sum + ys.length * a.length ≤ 16777216 ∧ Q (.str (Txt.join a ys)) H) dJoin := by
  intro H μ h x xs a ds Q W hr va vs bk
  unfold dJoin at bk
  split at bk
  · rename_i z b
    cases va
    cases vs with
    | @cons v _ _ _ vd t =>
      cases t
      split at bk
      · rename_i ys q
        obtain ⟨l, q1, q2⟩ := Option.bind_eq_some_iff.mp q
        have hy : ∃ p, v = .ref p := by cases vd <;> first | exact ⟨_, rfl⟩ | cases q1
        obtain ⟨p, rfl⟩ := hy
        obtain ⟨zs, h1, h2⟩ := hr.seq vd q1
        split at bk
        · rename_i c
          refine ⟨z, p, ys, rfl, rfl, ?_, by omega, bk.val hr (.str _)⟩
          rw [← strs_of h2 q2]
          exact h1
        · exact bk.elim
      · exact bk.elim
  · exact bk.elim
end
end Mi

namespace Mi
open PySem L2

/-! ### targets -/
abbrev MG := D → Slots → Option Slots
abbrev Rl := G → Hp → List Addr → V → D → Prop
/-- a pair that a walk has just laid: its items alone are known -/
def SV : Rl := fun g H μ v d => ∃ p xs ds, v = .ref p ∧ d = .tup ds ∧ SqT g.K H p xs ∧ VRs g H μ xs ds
def tGr (rl : Rl) (g : G) (m : MG) : TG := fun v σ H Q => ∃ ρ h μ d, SR g H μ σ ρ ∧ HR g H μ h ∧ rl g H μ v d ∧ match m d ρ with
  | some ρ' => ∀ σ', SR g H μ σ' ρ' → Q σ' H
  | none => False
abbrev tG (g : G) (m : MG) : TG := tGr VR g m
abbrev MGs := List D → Slots → Option Slots
def tGs (g : G) (m : MGs) : TGs := fun vs σ H Q => ∃ ρ h μ ds, SR g H μ σ ρ ∧ HR g H μ h ∧ VRs g H μ vs ds ∧ match m ds ρ with
  | some ρ' => ∀ σ', SR g H μ σ' ρ' → Q σ' H
  | none => False
def mgName (i : Nat) : MG := fun d ρ => some (ρ.set i (some d))
def mgNil : MGs := fun ds ρ => match ds with
  | [] => some ρ
  | _ => none
def mgCons (a : MG) (r : MGs) : MGs := fun ds ρ => match ds with
  | d :: ds => (a d ρ).bind fun ρ' => r ds ρ'
  | [] => none
def mgTup (r : MGs) : MG := fun d ρ => match d with
  | .tup ds => r ds ρ
  | _ => none
section
variable {X : Cx} {g : G} {pos : Pos}
theorem pg_mono {tg : Expr} {t t' : TG} (h : PG X tg t) (hm : ∀ v σ H Q, t' v σ H Q → t v σ H Q) : PG X tg t' := ⟨fun pins s σ H v u Q I r q => h.run pins s σ H v u Q I r (hm v σ H Q q)⟩
theorem pgs_mono {tg : List Expr} {t t' : TGs} (h : PGs X tg t) (hm : ∀ v σ H Q, t' v σ H Q → t v σ H Q) : PGs X tg t' := ⟨fun pins s σ H v u Q I r q => h.run pins s σ H v u Q I r (hm v σ H Q q)⟩
theorem sg_name {i : Nat} {x : Str} (hN : X.N.Nodup) (hi : X.N[i]? = some x := by rfl) (hx : Loc X.env.scope x := by first | exact Or.inl rfl | exact Or.inr rfl) (hf : X.fn x = true ∨ X.env.scope.names.lookup x = some .local := by first | exact .inl rfl | exact .inr rfl | assumption) : PG X (.Name x pos) (tG g (mgName i)) :=
  pg_mono (pg_name hN hi hx hf) fun v σ H Q ⟨ρ, h, μ, d, sr, hr, vd, q⟩ => q _ (sr.set i vd)
theorem sgs_nil : PGs X [] (tGs g mgNil) := pgs_mono pgs_nil fun vs σ H Q ⟨ρ, h, μ, ds, sr, hr, vd, q⟩ => by
  cases vd with
  | nil => exact ⟨rfl, q σ sr⟩
  | cons a b => exact q.elim
theorem sgs_cons {e : Expr} {es : List Expr} {t : MG} {u : MGs} (h1 : PG X e (tG g t)) (h2 : PGs X es (tGs g u))
    (hs : (assignEach (e :: es) X.env).map (·.2) = assign e X.env :: (assignEach es X.env).map (·.2) := by rfl) : PGs X (e :: es) (tGs g (mgCons t u)) :=
  pgs_mono (pgs_cons h1 h2 hs) fun vs σ H Q ⟨ρ, h, μ, ds, sr, hr, vd, q⟩ => by
    cases vd with
    | nil => exact q.elim
    | @cons v d vs ds a b =>
      refine ⟨v, vs, rfl, ρ, h, μ, d, sr, hr, a, ?_⟩
      simp only [mgCons] at q
      cases e : t d ρ with
      | none => rw [e] at q; exact q
      | some ρ' =>
        rw [e] at q
        exact fun σ' sr' => ⟨ρ', h, μ, ds, sr', hr, b, q⟩
/-- how many places a target has -/
def MGs.many (n : Nat) (m : MGs) : Prop := ∀ ds ρ ρ', m ds ρ = some ρ' → ds.length = n
theorem many_nil : MGs.many 0 mgNil := fun ds ρ ρ' e => by
  cases ds with
  | nil => rfl
  | cons _ _ => cases e
theorem many_cons {n : Nat} {a : MG} {r : MGs} (h : r.many n) : MGs.many (n + 1) (mgCons a r) := fun ds ρ ρ' e => by
  cases ds with
  | nil => cases e
  | cons d ds =>
    simp only [mgCons] at e
    obtain ⟨ρ1, _, e⟩ := Option.bind_eq_some_iff.mp e
    rw [List.length_cons, h ds _ _ e]
theorem sg_tup {es : List Expr} {k : Nat} {m : MGs} {n : Nat} (h : PGs X es (tGs g m)) (hm : m.many n) (hc : X.calm = true := by rfl) (hK : X.K = g.K := by rfl)
    (hn : (assignEach es X.env).length = n := by rfl) (hst : (assignEach es X.env).findIdx? (·.1) = none := by rfl) : PG X (.Tuple es k pos) (tG g (mgTup m)) :=
  pg_mono (pg_tup hc h hn hst) fun v σ H Q ⟨ρ, h, μ, d, sr, hr, vd, q⟩ => by
    cases vd with
    | @tup p xs ds hs vs =>
      simp only [mgTup] at q
      refine ⟨p, xs, rfl, by rw [hK]; exact hs.sq, ?_, ρ, h, μ, ds, sr, hr, vs, q⟩
      cases e : m ds ρ with
      | none => rw [e] at q; exact q.elim
      | some ρ' => rw [vs.length]; exact hm _ _ _ e
    | _ => exact q.elim
end

/-! ### what is walked -/
def JRr (rl : Rl) (g : G) (H0 : Hp) (μ0 : List Addr) (J : It) (a : List D × (MH → Bool)) : Prop := ∀ (i : Nat) (H : Hp) (μ : List Addr) (h : MH), Mon g H0 H μ0 μ → HR g H μ h → a.2 h = true →
  (i < a.1.length → J.go i H ∧ ∀ x H', J.yld i H x H' → ∃ d, a.1[i]? = some d ∧ Mon g H H' μ μ ∧ HR g H' μ h ∧ rl g H' μ x d) ∧ (a.1.length ≤ i → J.stop i H)
abbrev JR := JRr VR
abbrev MI := Slots → MH → R (List D × (MH → Bool))
abbrev tIr (rl : Rl) (g : G) (W : WX) (m : MI) : TI := tX (JRr rl) g W m
abbrev tI (g : G) (W : WX) (m : MI) : TI := tIr VR g W m
def yes : MH → Bool := fun _ => true
/-- the items of a list (as it stands), a tuple, a text -/
def itemsOf (a : D) (h : MH) : Option (List D × (MH → Bool)) := match a with
  | .tup l => some (l, yes)
  | .ref i => (getL h i).map fun l => (l, fun h' => decide (getL h' i = some l))
  | .str z => some (z.cps.toList.map fun c => .str ⟨#[c]⟩, yes)
  | _ => none
def mIter (a : ME) : MI := fun ρ h => (a ρ h).bind fun x h1 => match itemsOf x h1 with
  | some r => .ok r h1
  | none => .bad
def rangeD (i : Int) (n : Nat) : List D := (List.range n).map fun (k : Nat) => D.int (i + (k : Int))
def revRangeD (i : Int) (n : Nat) : List D := (List.range n).map fun (k : Nat) => D.int (i + (n : Int) - 1 - (k : Int))
def lim62 (i : Int) : Bool := decide (-(2 ^ 62) ≤ i) && decide (i < 2 ^ 62)
def dR1 (f : Int → Nat → List D) (x : D) (h : MH) : R (List D × (MH → Bool)) := match x with
  | .int j => if lim62 j = true then .ok (f 0 j.toNat, yes) h else .bad
  | _ => .bad
def dR2 (f : Int → Nat → List D) (x y : D) (h : MH) : R (List D × (MH → Bool)) := match x, y with
  | .int i, .int j => if lim62 i = true ∧ lim62 j = true then .ok (f i (j - i).toNat, yes) h else .bad
  | _, _ => .bad
def mRange1 (a : ME) : MI := fun ρ h => (a ρ h).bind fun x h1 => dR1 rangeD x h1
def mRange2 (a b : ME) : MI := fun ρ h => (a ρ h).bind fun x h1 => (b ρ h1).bind fun y h2 => dR2 rangeD x y h2
def mRev1 (a : ME) : MI := fun ρ h => (a ρ h).bind fun x h1 => dR1 revRangeD x h1
def mRev2 (a b : ME) : MI := fun ρ h => (a ρ h).bind fun x h1 => (b ρ h1).bind fun y h2 => dR2 revRangeD x y h2
section
variable {X : Cx} {g : G} {W : WX} {a b e : Expr} {ma mb : ME} {pos : Pos} {tg : Expr}
theorem pi_mono {t t' : TI} (h : PI X tg e t) (hm : ∀ σ H R, t' σ H R → t σ H R) : PI X tg e t' := ⟨fun pins s σ H R I q => h.run pins s σ H R I (hm σ H R q)⟩
theorem pi_or2 {t u : TI} (h : PI X tg e t) (h' : PI X tg e u) : PI X tg e (fun σ H R => t σ H R ∨ u σ H R) := ⟨fun pins s σ H R I q => by
  rcases q with q | q
  · exact h.run pins s σ H R I q
  · exact h'.run pins s σ H R I q⟩
theorem jr_list {H0 : Hp} {μ0 : List Addr} {p : Addr} {i : Nat} {l : List D} (hi : μ0[i]? = some p) : JR g H0 μ0 (Itl g.K p) (l, fun h' => decide (getL h' i = some l)) := fun k H μ h m hr gd => by
  have q : getL h i = some l := of_decide_eq_true gd
  obtain ⟨xs, hs, vs⟩ := hr.list (m.ix hi) q
  refine ⟨fun lt => ?_, fun le => ⟨xs, hs, by rw [vs.length]; exact le⟩⟩
  have hx : l[k]? = some l[k] := List.getElem?_eq_getElem lt
  obtain ⟨v, h1, h2⟩ := vs.get hx
  refine ⟨⟨xs, v, hs, h1⟩, fun x H' y => ?_⟩
  obtain ⟨e, y⟩ := y
  subst e
  have := y xs hs
  rw [h1] at this
  cases this
  exact ⟨_, hx, Mon.refl, hr, h2⟩
theorem jr_tup {H0 : Hp} {μ0 : List Addr} {p : Addr} {xs : List V} {l : List D} (hs : Tk g.K H0 p xs) (vs : VRs g H0 μ0 xs l) : JR g H0 μ0 (Itt g.K p) (l, yes) := fun k H μ h m hr _ => by
  have hs := (m.tups _ _ hs).sq
  have vs := vs.mono m
  refine ⟨fun lt => ?_, fun le => ⟨xs, hs, by rw [vs.length]; exact le⟩⟩
  have hx : l[k]? = some l[k] := List.getElem?_eq_getElem lt
  obtain ⟨v, h1, h2⟩ := vs.get hx
  refine ⟨⟨xs, v, hs, h1⟩, fun x H' y => ?_⟩
  obtain ⟨e, y⟩ := y
  subst e
  have := y xs hs
  rw [h1] at this
  cases this
  exact ⟨_, hx, Mon.refl, hr, h2⟩
theorem jr_str {H0 : Hp} {μ0 : List Addr} {z : Str} : JR g H0 μ0 (Its z) (z.cps.toList.map fun c => .str ⟨#[c]⟩, yes) := fun k H μ h m hr _ => by
  refine ⟨fun lt => ?_, fun le => ?_⟩
  · have lt' : k < z.cps.size := by simpa using lt
    refine ⟨lt', fun x H' y => ?_⟩
    obtain ⟨e, c, hc, ex⟩ := y
    subst e ex
    refine ⟨.str ⟨#[c]⟩, ?_, Mon.refl, hr, .str _⟩
    rw [List.getElem?_map, Array.getElem?_toList, hc]
    rfl
  · have : z.cps.size ≤ k := by simpa using le
    exact this
theorem jr_range {H0 : Hp} {μ0 : List Addr} {lo : Int} {n : Nat} : JR g H0 μ0 (Itr lo n) (rangeD lo n, yes) := fun k H μ h m hr _ => by
  refine ⟨fun lt => ?_, fun le => ?_⟩
  · have lt' : k < n := by simpa [rangeD] using lt
    refine ⟨lt', fun x H' y => ?_⟩
    obtain ⟨e, ex⟩ := y
    subst e ex
    refine ⟨.int (lo + (k : Int)), ?_, Mon.refl, hr, .int _⟩
    simp [rangeD, lt']
  · have : n ≤ k := by simpa [rangeD] using le
    exact this
theorem si_iter (he : PE X e (tE g W ma)) (hK : X.K = g.K := by rfl) : PI X tg e (tI g W (mIter ma)) :=
  pi_mono (pi_or2 (pi_list he) (pi_or2 (pi_tup he) (pi_str he))) fun σ H R ⟨ρ, h, μ, sr, hr, bk⟩ => by
    have use : ∀ (Q : VK), (∀ x d h1 H1 μ1, ma ρ h = .ok d h1 → Mon g H H1 μ μ1 → HR g H1 μ1 h1 → VR g H1 μ1 x d → Bk (JR g) g H1 μ1 (match itemsOf d h1 with | some r => Mi.R.ok r h1 | none => .bad) R (fun c d H' => W c d σ H') → Q x H1) → tE g W ma σ H Q := fun Q k =>
      ⟨ρ, h, μ, sr, hr, Bk.bind bk fun a h1 b H1 μ1 e m hr1 hv bk1 => k b a h1 H1 μ1 e m hr1 hv bk1⟩
    rw [hK]
    unfold mIter at bk
    cases e : ma ρ h with
    | bad => rw [e] at bk; exact bk.elim
    | exc x fs h' => exact .inl (use _ fun x d h1 H1 μ1 e' => by rw [e] at e'; cases e')
    | ok d h1 =>
      cases d with
      | tup l =>
        refine .inr (.inl (use _ fun x d h1 H1 μ1 e' m hr1 vx bk1 => ?_))
        rw [e] at e'
        cases e'
        cases vx with
        | @tup p xs ds hs vs => exact ⟨p, rfl, ⟨xs, hs.sq⟩, bk1 _ H1 μ1 Mon.refl hr1 (jr_tup hs vs)⟩
      | str z =>
        refine .inr (.inr (use _ fun x d h1 H1 μ1 e' m hr1 vx bk1 => ?_))
        rw [e] at e'
        cases e'
        cases vx
        exact ⟨z, rfl, bk1 _ H1 μ1 Mon.refl hr1 jr_str⟩
      | ref i =>
        refine .inl (use _ fun x d h1 H1 μ1 e' m hr1 vx bk1 => ?_)
        rw [e] at e'
        cases e'
        cases vx with
        | @ref p _ hi =>
          simp only [itemsOf] at bk1
          cases q : getL h1 i with
          | none => rw [q] at bk1; exact bk1.elim
          | some l =>
            rw [q] at bk1
            obtain ⟨xs, hs, vs⟩ := hr1.list hi q
            exact ⟨p, rfl, ⟨xs, hs⟩, bk1 _ H1 μ1 Mon.refl hr1 (jr_list hi)⟩
      | _ => rw [e] at bk; exact bk.elim
theorem lim_of {i : Int} (h : lim62 i = true) : -(2 ^ 62) ≤ i ∧ i < 2 ^ 62 := by
  unfold lim62 at h
  rw [Bool.and_eq_true] at h
  exact ⟨of_decide_eq_true h.1, of_decide_eq_true h.2⟩
theorem si_range1 {p : Pos} (hm : X.mg "range" = none) (ha : PE X a (tE g W ma)) (hg : Gl X "range" := by rfl) (hs : starEach [a] X.env = [(false, eval a X.env)] := by rfl) : PI X tg (.Call (.Name "range" p) [a] [] pos) (tI g W (mRange1 ma)) :=
  pi_mono (pi_range1 hg hm (pa_cons ha pa_nil hs) hs) fun σ H R ⟨ρ, h, μ, sr, hr, bk⟩ => step (rel := VR) (rel' := JR) (ma := ma) (Q' := R) sr hr bk fun x d h1 H1 μ1 m1 sr1 hr1 vx bk1 => by
    cases vx with
    | int j =>
      simp only [dR1] at bk1
      split at bk1
      · rename_i l
        exact ⟨j, rfl, (lim_of l).1, (lim_of l).2, bk1 _ H1 μ1 Mon.refl hr1 jr_range⟩
      · exact bk1.elim
    | _ => exact bk1.elim
end

/-! ### for -/
def forGo (gd : MH → Bool) (tg : MG) (body : MS) : List D → Slots → MH → Out
  | [], ρ, h => if gd h = true then .nx ρ h else .bad
  | d :: ds, ρ, h => if gd h = true then match tg d ρ with
    | some ρ1 => match body ρ1 h with
      | .nx ρ' h' => forGo gd tg body ds ρ' h'
      | .ct ρ' h' => forGo gd tg body ds ρ' h'
      | .bk ρ' h' => .nx ρ' h'
      | .rt d h' => .rt d h'
      | .exc x fs ρ' h' => .exc x fs ρ' h'
      | .bad => .bad
    | none => .bad else .bad
def mFor (it : MI) (tg : MG) (body : MS) : MS := fun ρ h => (it ρ h).out ρ fun a h1 => forGo a.2 tg body a.1 ρ h1
def whGo (c : MT) (body : MS) : Nat → Slots → MH → Out
  | 0, _, _ => .bad
  | n + 1, ρ, h => (c ρ h).out ρ fun b h1 => if b = true then match body ρ h1 with
    | .nx ρ' h' => whGo c body n ρ' h'
    | .ct ρ' h' => whGo c body n ρ' h'
    | .bk ρ' h' => .nx ρ' h'
    | .rt d h' => .rt d h'
    | .exc x fs ρ' h' => .exc x fs ρ' h'
    | .bad => .bad else .nx ρ h1
def mWhile (n : Nat) (c : MT) (body : MS) : MS := fun ρ h => whGo c body n ρ h
section
variable {X : Cx} {g : G} {W : WX} {pos : Pos} {tg iter : Expr} {mi : MI} {mt : MG} {mb : MS} {body : List Stmt} {rl : Rl}
theorem sx_for (hp : PassesOwn (model X.prog X.w) X.A X.env X.xe) (hi : PI X tg iter (tIr rl g W mi)) (hg : PG X tg (tGr rl g mt)) (hb : PSs X body (tS g W mb)) (hc : X.calm = true := by rfl) (hs : ∀ x, foldedSetIterable iter X.env x = pure x := by intro _; rfl) :
    PS X (.For tg iter body [] pos) (tS g W (mFor mi mt mb)) :=
  ps_mono (ps_for hp hc hi hg hb hs) fun E σ H ⟨ρ, h, μ, sr, hr, bk⟩ => stepS (rel := JRr rl) (ma := mi) (E := E) sr hr bk fun J a h1 H1 μ1 m1 sr1 hr1 jr bk1 => by
    refine ⟨fun i m σ' H' => m = a.1.length - i ∧ i ≤ a.1.length ∧ ∃ ρ' h' μ', Mon g H1 H' μ1 μ' ∧ SR g H' μ' σ' ρ' ∧ HR g H' μ' h' ∧ BkS g H' μ' (forGo a.2 mt mb (a.1.drop i) ρ' h') E W, ⟨a.1.length, by simp, Nat.zero_le _, ρ, h1, μ1, Mon.refl, sr1, hr1, by simpa using bk1⟩, ?_⟩
    rintro i m σ' H' ⟨rfl, hi, ρ', h', μ', m', sr', hr', bk'⟩
    by_cases hlt : i < a.1.length
    · have ed : a.1.drop i = a.1[i] :: a.1.drop (i + 1) := List.drop_eq_getElem_cons hlt
      rw [ed] at bk'
      unfold forGo at bk'
      split at bk'
      · rename_i gd
        obtain ⟨jg, _⟩ := jr i H' μ' h' m' hr' gd
        obtain ⟨go, yl⟩ := jg hlt
        refine .inr ⟨go, fun σ2 H2 => i + 1 ≤ a.1.length ∧ ∃ ρ2 h2 μ2, Mon g H1 H2 μ1 μ2 ∧ SR g H2 μ2 σ2 ρ2 ∧ HR g H2 μ2 h2 ∧ BkS g H2 μ2 (forGo a.2 mt mb (a.1.drop (i + 1)) ρ2 h2) E W, fun σ2 H2 q => ⟨a.1.length - (i + 1), by omega, rfl, q.1, q.2⟩, fun x Hy y => ?_⟩
        obtain ⟨d, hd, my, hry, vy⟩ := yl x Hy y
        rw [List.getElem?_eq_getElem hlt] at hd
        cases hd
        refine ⟨ρ', h', μ', _, sr'.mono my, hry, vy, ?_⟩
        split at bk'
        · rename_i ρ1 e1
          intro σ3 sr3
          refine ⟨ρ1, h', μ', sr3, hry, ?_⟩
          have mm := m'.trans my
          cases e2 : mb ρ1 h' with
          | nx ρ4 h4 => rw [e2] at bk'; exact fun σ4 H4 μ4 m4 sr4 hr4 => ⟨hlt, ρ4, h4, μ4, mm.trans m4, sr4, hr4, BkS.mono (my.trans m4) bk'⟩
          | ct ρ4 h4 => rw [e2] at bk'; exact fun σ4 H4 μ4 m4 sr4 hr4 => ⟨hlt, ρ4, h4, μ4, mm.trans m4, sr4, hr4, BkS.mono (my.trans m4) bk'⟩
          | bk ρ4 h4 => rw [e2] at bk'; exact BkS.mono my bk'
          | rt d4 h4 => rw [e2] at bk'; exact BkS.mono my bk'
          | exc x4 fs4 ρ4 h4 => rw [e2] at bk'; exact BkS.mono my bk'
          | bad => rw [e2] at bk'; exact bk'
        · exact bk'.elim
      · exact bk'.elim
    · have e : i = a.1.length := by omega
      subst e
      rw [List.drop_length] at bk'
      unfold forGo at bk'
      split at bk'
      · rename_i gd
        exact .inl ⟨(jr _ H' μ' h' m' hr' gd).2 (Nat.le_refl _), bk' σ' H' μ' Mon.refl sr' hr'⟩
      · exact bk'.elim
theorem sx_while {c : Expr} {mc : MT} (n : Nat) (hp : PassesOwn (model X.prog X.w) X.A X.env X.xe) (hc : PT X c (tT g W mc)) (hb : PSs X body (tS g W mb)) : PS X (.While c body [] pos) (tS g W (mWhile n mc mb)) :=
  ps_mono (ps_while hp hc hb) fun E σ H ⟨ρ, h, μ, sr, hr, bk⟩ => by
    refine ⟨fun m σ' H' => ∃ ρ' h' μ', SR g H' μ' σ' ρ' ∧ HR g H' μ' h' ∧ BkS g H' μ' (whGo mc mb m ρ' h') E W, ⟨n, ρ, h, μ, sr, hr, bk⟩, ?_⟩
    rintro m σ' H' ⟨ρ', h', μ', sr', hr', bk'⟩
    cases m with
    | zero => exact bk'.elim
    | succ m =>
      unfold whGo at bk'
      refine stepS (rel := fun _ => eqR) (ma := mc) (E := E) sr' hr' bk' fun b b' h1 H1 μ1 m1 sr1 hr1 vb bk1 => ?_
      cases vb
      cases b with
      | false => exact bk1 σ' H1 μ1 Mon.refl sr1 hr1
      | true =>
        refine ⟨fun σ2 H2 => ∃ ρ2 h2 μ2, SR g H2 μ2 σ2 ρ2 ∧ HR g H2 μ2 h2 ∧ BkS g H2 μ2 (whGo mc mb m ρ2 h2) E W, fun σ2 H2 q => ⟨m, Nat.lt_succ_self m, q⟩, ρ', h1, μ1, sr1, hr1, ?_⟩
        simp only [if_true] at bk1
        cases e2 : mb ρ' h1 with
        | nx ρ4 h4 => rw [e2] at bk1; exact fun σ4 H4 μ4 m4 sr4 hr4 => ⟨ρ4, h4, μ4, sr4, hr4, BkS.mono m4 bk1⟩
        | ct ρ4 h4 => rw [e2] at bk1; exact fun σ4 H4 μ4 m4 sr4 hr4 => ⟨ρ4, h4, μ4, sr4, hr4, BkS.mono m4 bk1⟩
        | bk ρ4 h4 => rw [e2] at bk1; exact bk1
        | rt d4 h4 => rw [e2] at bk1; exact bk1
        | exc x4 fs4 ρ4 h4 => rw [e2] at bk1; exact bk1
        | bad => rw [e2] at bk1; exact bk1
end

/-! ### a def by its body -/
def startD (n N : Nat) (ds : List D) : Slots := ds.map some ++ List.replicate (N - n) none
def mFun (n N : Nat) (body : MS) : List D → MH → R D := fun ds h => if ds.length = n then match body (startD n N ds) h with
  | .nx _ h' => .ok .non h'
  | .rt d h' => .ok d h'
  | .exc x fs _ h' => .exc x fs h'
  | _ => .bad else .bad
theorem spM_len {g : G} {n N : Nat} {body : MS} {vs : List V} {H : Hp} {Q : VK} {E : XK} (h : spM g (mFun n N body) vs H Q E) : vs.length = n := by
  obtain ⟨ds, hh, μ, v, hr, bk⟩ := h
  unfold mFun at bk
  split at bk
  · rename_i e; rw [v.length]; exact e
  · exact bk.elim
theorem spM_run {g : G} {ps N : List Str} {body : MS} {vs : List V} {H : Hp} {Q : VK} {E : XK} (h : spM g (mFun ps.length N.length body) vs H Q E) : tS g (fun c d _ H' => E c d H') body { nx := fun _ H' => Q .non H', rt := Q } (L2.start N vs) H := by
  have hl := spM_len h
  obtain ⟨ds, hh, μ, v, hr, bk⟩ := h
  unfold mFun at bk
  split at bk
  · rename_i e
    refine ⟨startD ps.length N.length ds, hh, μ, ?_, hr, ?_⟩
    · unfold L2.start startD
      rw [hl]
      exact SR.start _ v
    · cases q : body (startD ps.length N.length ds) hh with
      | nx ρ h' => rw [q] at bk; exact fun σ' H' μ' m sr hr' => bk .non H' μ' m hr' .non
      | rt d h' => rw [q] at bk; exact fun v H' μ' m hr' vd => bk v H' μ' m hr' vd
      | bk ρ h' => rw [q] at bk; exact bk.elim
      | ct ρ h' => rw [q] at bk; exact bk.elim
      | exc x fs ρ h' => rw [q] at bk; exact fun cls d σ' H' μ' m sr hr' xr => bk cls d H' μ' m hr' xr
      | bad => rw [q] at bk; exact bk
  · exact bk.elim
section
variable {P : Program} {w : World} {K : PySem.W.Frag} {mg : Str → Option Value} {base : Heap} {g : G}
theorem fn_mk {x qual : Str} {st : Stmt} {f : Addr} {fd : FuncData} {N ps : List Str} {k : Nat} {body : MS} (F : Fun K x qual st f fd) (S : FnScope N ps (defScope st))
    (hb : ∀ (cdv : Value) (A : Around) (outer : List Env) (s : Shared) (H : Hp) (E : XK), Room k (A.deeper (PyProof.Rows.envOfC qual (defScope st) s.heap.objs.size f cdv)) →
      PSs (cxOf (L2.CX P w) P w K mg base N qual (defScope st) f cdv A outer s H E) (defBody st) (tS g (fun c d _ H' => E c d H') body)) :
    FnOk P w K mg base (L2.CX P w) (k + 1) f fd ps (spM g (mFun ps.length N.length body)) :=
  F.okX S (fun vs H Q E h => spM_len h) fun cdv A outer s H vs Q E hr h => ⟨_, hb cdv A outer s H E hr, spM_run h⟩
end
end Mi

namespace Mi
open PySem L2

/-! ### list comprehensions -/
abbrev W0 : WX := fun _ _ _ _ => False
def mYes : MT := fun _ h => .ok true h
def wipeD (ρ : Slots) : List Nat → Slots
  | [] => ρ
  | v :: vs => (wipeD ρ vs).set v none
theorem SR.wipe {g : G} {H : Hp} {μ : List Addr} {σ : St} {ρ : Slots} (h : SR g H μ σ ρ) : ∀ vs : List Nat, SR g H μ (L2.wipe σ vs) (wipeD ρ vs)
  | [] => h
  | v :: vs => (SR.wipe h vs).unset v none
def lcGo (gd : MH → Bool) (tg : MG) (tt : MT) (te : ME) (c : Nat) (ρ : Slots) : List D → MH → R D
  | [], h => if gd h = true then .ok (.ref c) h else .bad
  | d :: ds, h => if gd h = true then match tg d ρ with
    | some ρ1 => match tt ρ1 h with
      | .ok false h1 => lcGo gd tg tt te c ρ ds h1
      | .ok true h1 => match te ρ1 h1 with
        | .ok y h2 => match h2[c]? with
          | some (.lst acc) => if acc.length < 1000000 then lcGo gd tg tt te c ρ ds (h2.set c (.lst (acc ++ [y]))) else .bad
          | _ => .bad
        | _ => .bad
      | _ => .bad
    | none => .bad else .bad
def mLc (it : MI) (tg : MG) (tt : MT) (te : ME) (vs : List Nat) : ME := fun ρ h => (it ρ h).bind fun a h1 => lcGo a.2 tg tt te h1.length (wipeD ρ vs) a.1 (h1 ++ [.lst []])
/-- a target by its very slots -/
structure TgOk (rl : Rl) (g : G) (t : TG) (m : MG) (vs : List Nat) : Prop where
  run : ∀ (v : V) (d : D) (σ : St) (ρ : Slots) (H : Hp) (μ : List Addr) (h : MH) (Q : St → Hp → Prop), HR g H μ h → rl g H μ v d → SR g H μ (L2.wipe σ vs) ρ →
    match m d ρ with
    | some ρ' => (∀ σ', SR g H μ σ' ρ' → L2.wipe σ' vs = L2.wipe σ vs → Q σ' H) → t v (L2.wipe σ vs) H Q
    | none => True
theorem tg_name {g : G} (j : Nat) : TgOk VR g (gName j) (mgName j) [j] := ⟨fun v d σ ρ H μ h Q hr vd sr => by
  intro k
  refine k _ (sr.set j vd) ?_
  show ((σ.set j none).set j (some v)).set j none = σ.set j none
  rw [List.set_set, List.set_set]⟩
section
variable {g : G} {W : WX} {mi : MI} {mt : MG} {tt : MT} {te : ME} {t : TG} {vs : List Nat} {rl : Rl}
theorem lc_of (ht : TgOk rl g t mt vs) {σ : St} {H : Hp} {Q : VK} (q : tE g W (mLc mi mt tt te vs) σ H Q) : tLc (tIr rl g W mi) t (tT g W0 tt) (tE g W0 te) vs σ H Q := by
  obtain ⟨ρ, h, μ, sr, hr, bk⟩ := q
  refine step (rel := JRr rl) (rel' := VR) (ma := mi) (Q' := Q) sr hr bk fun J a h1 H1 μ1 m1 sr1 hr1 jr bk1 Dd hD => ?_
  have mD : Mon g H1 (upd H1 Dd (.lst [])) μ1 (μ1 ++ [Dd]) := mon_push hD
  refine ⟨fun i m H' => m = a.1.length - i ∧ i ≤ a.1.length ∧ ∃ h' μ', Mon g H1 H' μ1 μ' ∧ μ'[h1.length]? = some Dd ∧ HR g H' μ' h' ∧ Bk (VR g) g H' μ' (lcGo a.2 mt tt te h1.length (wipeD ρ vs) (a.1.drop i) h') Q (fun c d H' => W c d σ H'),
    ⟨a.1.length, by simp, Nat.zero_le _, h1 ++ [.lst []], μ1 ++ [Dd], mD, ix_push hr1.len, hr1.push (u := .lst []) hD ⟨[], upd_same, .nil⟩, Bk.mono mD (by simpa using bk1)⟩, ?_⟩
  rintro i m H' ⟨rfl, hi, h', μ', m', hc, hr', bk'⟩
  by_cases hlt : i < a.1.length
  · have ed : a.1.drop i = a.1[i] :: a.1.drop (i + 1) := List.drop_eq_getElem_cons hlt
    rw [ed] at bk'
    unfold lcGo at bk'
    split at bk'
    · rename_i gd
      obtain ⟨jg, _⟩ := jr i H' μ' h' m' hr' gd
      obtain ⟨go, yl⟩ := jg hlt
      refine .inr ⟨go, fun H2 => i + 1 ≤ a.1.length ∧ ∃ h2 μ2, Mon g H1 H2 μ1 μ2 ∧ μ2[h1.length]? = some Dd ∧ HR g H2 μ2 h2 ∧ Bk (VR g) g H2 μ2 (lcGo a.2 mt tt te h1.length (wipeD ρ vs) (a.1.drop (i + 1)) h2) Q (fun c d H' => W c d σ H'), fun H2 q => ⟨a.1.length - (i + 1), by omega, rfl, q.1, q.2⟩, fun x Hy y => ?_⟩
      obtain ⟨d, hd, my, hry, vy⟩ := yl x Hy y
      rw [List.getElem?_eq_getElem hlt] at hd
      cases hd
      have mm := m'.trans my
      have srw : SR g Hy μ' (L2.wipe σ vs) (wipeD ρ vs) := (sr1.mono mm).wipe vs
      have tr := ht.run x a.1[i] σ (wipeD ρ vs) Hy μ' h' (fun σ2 H2 => L2.wipe σ2 vs = L2.wipe σ vs ∧ tT g W0 tt σ2 H2 fun b H3 => if b = true then tE g W0 te σ2 H3 fun y H4 => ∃ acc, H4 Dd = some (.lst acc) ∧ acc.length < sizeLine ∧ (i + 1 ≤ a.1.length ∧ ∃ h2 μ2, Mon g H1 (upd H4 Dd (.lst (acc ++ [y]))) μ1 μ2 ∧ μ2[h1.length]? = some Dd ∧ HR g (upd H4 Dd (.lst (acc ++ [y]))) μ2 h2 ∧ Bk (VR g) g (upd H4 Dd (.lst (acc ++ [y]))) μ2 (lcGo a.2 mt tt te h1.length (wipeD ρ vs) (a.1.drop (i + 1)) h2) Q (fun c d H' => W c d σ H')) else (i + 1 ≤ a.1.length ∧ ∃ h2 μ2, Mon g H1 H3 μ1 μ2 ∧ μ2[h1.length]? = some Dd ∧ HR g H3 μ2 h2 ∧ Bk (VR g) g H3 μ2 (lcGo a.2 mt tt te h1.length (wipeD ρ vs) (a.1.drop (i + 1)) h2) Q (fun c d H' => W c d σ H'))) hry vy srw
      split at bk'
      · rename_i ρ1 e1
        rw [e1] at tr
        refine tr fun σ2 sr2 ew => ⟨ew, ρ1, h', μ', sr2, hry, ?_⟩
        cases e2 : tt ρ1 h' with
        | bad => rw [e2] at bk'; exact bk'.elim
        | exc x fs h3 => rw [e2] at bk'; exact bk'.elim
        | ok b h3 =>
          rw [e2] at bk'
          intro b' H3 μ3 m3 hr3 eb
          cases eb
          cases b with
          | false => exact ⟨hlt, h3, μ3, mm.trans m3, m3.ix hc, hr3, Bk.mono (my.trans m3) bk'⟩
          | true =>
            refine ⟨ρ1, h3, μ3, sr2.mono m3, hr3, ?_⟩
            simp only at bk'
            cases e3 : te ρ1 h3 with
            | bad => rw [e3] at bk'; exact bk'.elim
            | exc x fs h4 => rw [e3] at bk'; exact bk'.elim
            | ok y h4 =>
              rw [e3] at bk'
              intro yv H4 μ4 m4 hr4 vyv
              simp only at bk'
              split at bk'
              · rename_i acc ea
                split at bk'
                · rename_i hl
                  have hc4 : μ4[h1.length]? = some Dd := m4.ix (m3.ix hc)
                  obtain ⟨xs, hx, vx⟩ := hr4.lst hc4 ea
                  have m5 : Mon g H4 (upd H4 Dd (.lst (xs ++ [yv]))) μ4 μ4 := (Saf.lst hx).mon
                  exact ⟨xs, hx, by rw [vx.length]; exact sz6' hl, hlt, _, μ4, ((mm.trans m3).trans m4).trans m5, hc4,
                    hr4.write (u := .lst (acc ++ [y])) hc4 ea rfl (Saf.lst hx) rfl ⟨_, upd_same, (vx.append (.one vyv)).mono m5⟩, Bk.mono (((my.trans m3).trans m4).trans m5) bk'⟩
                · exact bk'.elim
              · exact bk'.elim
      · exact bk'.elim
    · exact bk'.elim
  · have e : i = a.1.length := by omega
    subst e
    rw [List.drop_length] at bk'
    unfold lcGo at bk'
    split at bk'
    · rename_i gd
      exact .inl ⟨(jr _ H' μ' h' m' hr' gd).2 (Nat.le_refl _), bk' _ H' μ' Mon.refl hr' (.ref hc)⟩
    · exact bk'.elim
end
section
variable {X : Cx} {g : G} {W : WX} {elt tg iter : Expr} {ifs : List Expr} {scope : Scope} {own : List (Str × Nat)} {pos spos py : Pos} {mi : MI} {mt : MG} {tt : MT} {te : ME} {t : TG} {rl : Rl}
theorem st_one {Y : Cx} {c : Expr} (h : PT Y c (tT g W0 tt)) : PTs Y [c] (tT g W0 tt) := pts_one h
theorem st_nil {Y : Cx} : PTs Y [] (tT g W0 mYes) := ⟨fun pins s σ H Q I ⟨ρ, h, μ, sr, hr, bk⟩ => (pts_nil (X := Y)).run pins s σ H Q I (bk true H μ Mon.refl hr rfl)⟩
theorem se_lc (hN : X.N.Nodup) (hi : PI X tg iter (tIr rl g W mi)) (ok : BlkOk X.N X.env.scope scope own) (ht : TgOk rl g t mt (own.map (·.2)))
    (hg : ∀ (s : Shared) (H : Hp) (C : Addr) (cl : List (Str × Addr)) (fp : List Addr), PG (X.blk s H scope (PySem.compEnvC scope cl C X.env) fp) tg t) (hts : ∀ (s : Shared) (H : Hp) (C : Addr) (cl : List (Str × Addr)) (fp : List Addr), PTs (X.blk s H scope (PySem.compEnvC scope cl C X.env) fp) ifs (tT g W0 tt))
    (he : ∀ (s : Shared) (H : Hp) (C : Addr) (cl : List (Str × Addr)) (fp : List Addr), PE (X.blk s H scope (PySem.compEnvC scope cl C X.env) fp) elt (tE g W0 te)) (hc : X.calm = true := by rfl) (hs : ∀ x, foldedSetIterable iter X.env x = pure x := by intro _; rfl) :
    PE X (.ListComp elt [⟨tg, iter, ifs, 0⟩] scope pos) (tE g W (mLc mi mt tt te (own.map (·.2)))) :=
  pe_mono (pe_lc hc hN hi ok hg hts he hs) fun σ H Q q => lc_of ht q
theorem sx_setLc {i : Nat} {y : Str} (hN : X.N.Nodup) (hi : PI X tg iter (tIr rl g W mi)) (ok : BlkOk X.N X.env.scope scope own) (ht : TgOk rl g t mt (own.map (·.2)))
    (hg : ∀ (s : Shared) (H : Hp) (C : Addr) (cl : List (Str × Addr)) (fp : List Addr), PG (X.blk s H scope (PySem.compEnvC scope cl C X.env) fp) tg t) (hts : ∀ (s : Shared) (H : Hp) (C : Addr) (cl : List (Str × Addr)) (fp : List Addr), PTs (X.blk s H scope (PySem.compEnvC scope cl C X.env) fp) ifs (tT g W0 tt))
    (he : ∀ (s : Shared) (H : Hp) (C : Addr) (cl : List (Str × Addr)) (fp : List Addr), PE (X.blk s H scope (PySem.compEnvC scope cl C X.env) fp) elt (tE g W0 te))
    (hy : X.N[i]? = some y := by rfl) (hyl : X.env.scope.names.lookup y = some .local := by rfl) (hsw : swapsWith (.ListComp elt [⟨tg, iter, ifs, 0⟩] scope pos) (some (.Name y py)) spos.line X.env = pure true := by exact sw_true rfl rfl rfl (by decide +kernel))
    (hc : X.calm = true := by rfl) (hs : ∀ x, foldedSetIterable iter X.env x = pure x := by intro _; rfl) :
    PS X (.Assign [.Name y py] (.ListComp elt [⟨tg, iter, ifs, 0⟩] scope pos) spos) (tS g W (mAsg i (mLc mi mt tt te (own.map (·.2))))) :=
  ps_mono (ps_setLc hc hN hy hyl hsw hi ok hg hts he hs) fun E σ H ⟨ρ, h, μ, sr, hr, bk⟩ => lc_of ht (W := W) (stepS (W := W) (rel := VR) (ma := mLc mi mt tt te (own.map (fun p : Str × Nat => p.2))) (f := fun d h1 => .nx (ρ.set i (some d)) h1) (E := E) sr hr bk fun v d h1 H1 μ1 m1 sr1 hr1 vx bk1 => bk1 _ H1 μ1 Mon.refl (sr1.set i vx) hr1)
end

/-! ### stores to places, to several names -/
def dSet (x y d : D) (h : MH) : R Unit := match x, y with
  | .ref i, .int k => match h[i]? with
    | some (.lst l) => match ixN l.length k with
      | some j => .ok () (h.set i (.lst (l.set j d)))
      | none => .bad
    | _ => .bad
  | _, _ => .bad
def mSetIx (o i e : ME) : MS := fun ρ h => (e ρ h).out ρ fun d h1 => (o ρ h1).out ρ fun x h2 => (i ρ h2).out ρ fun y h3 => (dSet x y d h3).out ρ fun _ h4 => .nx ρ h4
def mAsgT (m : MG) (e : ME) : MS := fun ρ h => (e ρ h).out ρ fun d h1 => match m d ρ with
  | some ρ' => .nx ρ' h1
  | none => .bad
section
variable {X : Cx} {g : G} {W : WX} {o i e tg : Expr} {mo mi me : ME} {pos p2 : Pos} {mt : MG}
theorem sx_setIx (ho : PE X o (tE g W mo)) (hi : PE X i (tE g W mi)) (he : PE X e (tE g W me))
    (ha : ∀ v, assign (.Subscript o i p2) X.env v = (do
      let ov ← holding [v] (eval o X.env)
      let iv ← holding [v, ov] (eval i X.env)
      standAt p2
      holding [v, ov, iv] (setItem ov iv v)
      release [v, ov, iv] []) := by intro _; rfl)
    (hs : swapsWithSole [.Subscript o i p2] e pos.line X.env = pure false := by rfl) (hw : swappedStores [.Subscript o i p2] e X.env = pure none := by rfl)
    (h1 : (assignEach [.Subscript o i p2] X.env).map (·.2) = [assign (.Subscript o i p2) X.env] := by rfl) : PS X (.Assign [.Subscript o i p2] e pos) (tS g W (mSetIx mo mi me)) :=
  ps_mono (ps_asg he (pg_sub ho hi set_list ha) hs hw h1) fun E σ H ⟨ρ, h, μ, sr, hr, bk⟩ =>
    stepS (rel := VR) (ma := me) (E := E) sr hr bk fun v d h1 H1 μ1 m1 sr1 hr1 vd bk1 => stepS (rel := VR) (ma := mo) (E := E) sr1 hr1 bk1 fun x a h2 H2 μ2 m2 sr2 hr2 vx bk2 => stepS (rel := VR) (ma := mi) (E := E) sr2 hr2 bk2 fun y b h3 H3 μ3 m3 sr3 hr3 vy bk3 => by
      have vx := vx.mono m3
      have vd := (vd.mono m2).mono m3
      cases vx with
      | @ref p c hi =>
        cases vy with
        | int k =>
          simp only [dSet] at bk3
          split at bk3
          · rename_i l q
            split at bk3
            · rename_i j ej
              obtain ⟨xs, hx, vxs⟩ := hr3.lst hi q
              refine ⟨p, xs, k, j, rfl, rfl, hx, by rw [vxs.length]; exact ej, ?_⟩
              have m5 : Mon g H3 (upd H3 p (.lst (xs.set j v))) μ3 μ3 := (Saf.lst hx).mon
              exact bk3 _ _ μ3 m5 (sr3.mono m5) (hr3.write (u := .lst (l.set j d)) hi q rfl (Saf.lst hx) rfl ⟨_, upd_same, (vxs.set j vd).mono m5⟩)
            · exact bk3.elim
          · exact bk3.elim
        | _ => exact bk3.elim
      | _ => exact bk3.elim
theorem sx_setT (he : PE X e (tE g W me)) (hg : PG X tg (tG g mt)) (hs : swapsWithSole [tg] e pos.line X.env = pure false := by rfl) (hw : swappedStores [tg] e X.env = pure none := by rfl)
    (h1 : (assignEach [tg] X.env).map (·.2) = [assign tg X.env] := by rfl) : PS X (.Assign [tg] e pos) (tS g W (mAsgT mt me)) :=
  ps_mono (ps_asg he hg hs hw h1) fun E σ H ⟨ρ, h, μ, sr, hr, bk⟩ => stepS (rel := VR) (ma := me) (E := E) sr hr bk fun v d h1 H1 μ1 m1 sr1 hr1 vd bk1 => by
    refine ⟨ρ, h1, μ1, d, sr1, hr1, vd, ?_⟩
    split at bk1
    · rename_i ρ' e'
      (try rw [e'])
      exact fun σ' sr' => bk1 σ' H1 μ1 Mon.refl sr' hr1
    · exact bk1.elim
end

/-! ### the end of a law -/
def cmOf (K : PySem.W.Frag) : Str → Option Addr := fun x => match PySem.W.nsIn K mainGlobals x with
  | some (some (.ref C)) => some C
  | _ => none
abbrev gOf (w : World) (K : PySem.W.Frag) : G := ⟨K, cmOf K, w⟩
theorem vrs_ints {g : G} {H : Hp} {μ : List Addr} : ∀ ns : List Int, VRs g H μ (ns.map V.int) (ns.map D.int)
  | [] => .nil
  | n :: ns => .cons (.int n) (vrs_ints ns)
theorem law_start {K : PySem.W.Frag} {F : List D → MH → R D} {H : Hp} {a : Addr} {ns : List Int} {h' : MH} (hO : Only H) (hS : SqL K H a (ns.map V.int)) (hF : F [.ref 0] [.rol (ns.map D.int)] = .ok (.bl true) h') :
    spM (gOf w K) F [.ref a] H (fun v _ => v = .bl true) fun _ _ _ => False := by
  refine ⟨[.ref 0], [.rol (ns.map D.int)], [a], .cons (.ref rfl) .nil, ⟨rfl, fun i p o hi ho => ?_, fun i j p o u hi hj ho hu m1 m2 => ?_⟩, ?_⟩
  · cases i with
    | succ i => simp at hi
    | zero =>
      simp at hi ho
      subst hi ho
      refine ⟨ns.map V.int, ?_, vrs_ints ns⟩
      rcases hS with (h | h) | h
      · rcases hO a with z | ⟨o, xs, z⟩
        · rw [h] at z; cases z
        · rw [h] at z; cases z
      · exact .inl h
      · exact .inr h
  · cases i with
    | succ i => simp at hi
    | zero => cases j with
      | succ j => simp at hj
      | zero => rfl
  · rw [hF]
    intro v H' μ' m hr hv
    cases hv
    rfl
theorem law_end {l : PySem.W.OpenLaw} {k : Nat} {q : Program} {loose : List Str} {XP : (Str → Option Value) → Heap → Prop} {YP : World → Heap → Prop} {d : DefRec} {K : Params → PySem.W.Frag} {x : Str} {F : List D → MH → R D}
    (hF : ∀ ns : List Int, ns.length ≤ 63 → (∀ z ∈ ns, Builtin.Int.intBits z ≤ 1048576) → ∃ h', F [.ref 0] [.rol (ns.map D.int)] = .ok (.bl true) h')
    (hn : l.most = some 63) (hdf : d.params.defaults = []) (hr : Room k PySem.callerA)
    (hY : ∀ (w : World) (h : Heap), YP w h → (K w.params).In h)
    (FF : ∀ (w : World) (mg : Str → Option Value) (fa : Addr) (h : Heap), (K w.params).In h → h.Ns mainGlobals mg → mg d.name = some (.ref fa) →
      ∃ fd : FuncData, (∀ (s : Shared) (u : Value), BindsTo s fd ⟨[u], []⟩ [(x, u)]) ∧
        ∀ base : Heap, (K w.params).In base → base.Ns mainGlobals mg → FnOk l.prog w (K w.params) mg base (L2.CX l.prog w) k fa fd [x] (spM (gOf w (K w.params)) F)) :
    PySem.W.WalkO q loose XP YP l.row.toRowW d [] (fun f vs => PySem.call f vs) :=
  walk_ofB (n := 63) (k := k) (x := x) (CX := fun w => L2.CX l.prog w) (sp := fun w => spM (gOf w (K w.params)) F) hn (by decide) hdf hr hY FF
    (fun w H a ns h1 h2 hO hS => let ⟨h', e⟩ := hF ns h1 h2; law_start hO hS e)
    fun w H s e s' c => by
      obtain ⟨_, _, _, _, _, _, _, _, _, _, _, _, z⟩ := c
      exact z
end Mi

namespace Mi
open PySem L2

/-! ### dict displays of no pair, of one -/
def keyD : D → Option Key
  | .int i => some (.inl i)
  | .str x => some (.inr x)
  | _ => none
def mDict0 : ME := fun _ h => .ok (.ref h.length) (h ++ [.dK []])
def mDict1 (k v : ME) : ME := fun ρ h => (k ρ (h ++ [.dK []])).bind fun x h1 => (v ρ h1).bind fun y h2 => if h2[h.length]? = some (.dK []) then match keyD x with
  | some kk => .ok (.ref h.length) (h2.set h.length (.dK [(kk, y)]))
  | none => .bad else .bad
section
variable {X : Cx} {g : G} {W : WX} {k v : Expr} {mk mv : ME} {pos : Pos}
theorem se_dict0 : PE X (.Dict [] [] pos) (tE g W mDict0) := pe_mono pe_dnewK fun σ H Q ⟨ρ, h, μ, sr, hr, bk⟩ p hp =>
  bk _ _ (μ ++ [p]) (mon_push hp) (hr.push (u := .dK []) hp ⟨[], upd_same, .nil⟩) (.ref (ix_push hr.len))
theorem keyD_of {H : Hp} {μ : List Addr} {x : V} {d : D} {kk : Key} (vx : VR g H μ x d) (e : keyD d = some kk) : x = kV kk := by
  cases vx <;> cases e <;> rfl
end
/-! ### a < b < c -/
def mChain (f f' : D → D → MH → R D) (a b c : ME) : ME := fun ρ h => (a ρ h).bind fun x h1 => (b ρ h1).bind fun y h2 => (f x y h2).bind fun z h3 => match z with
  | .bl true => (c ρ h3).bind fun w h4 => f' y w h4
  | .bl false => .ok (.bl false) h3
  | _ => .bad
section
variable {X : Cx} {g : G} {W : WX} {a b c : Expr} {ma mb mc : ME} {pos : Pos} {r r' : R2} {f f' : D → D → MH → R D} {op op' : CmpOp}
theorem chain_of (hs : S2 g r f) (hs' : S2 g r' f') {σ : St} {H : Hp} {Q : VK} (q : tE g W (mChain f f' ma mb mc) σ H Q) : tChain r r' (tE g W ma) (tE g W mb) (tE g W mc) σ H Q := by
  obtain ⟨ρ, h, μ, sr, hr, bk⟩ := q
  refine step (rel := VR) (rel' := VR) (ma := ma) (Q' := Q) sr hr bk fun x a h1 H1 μ1 m1 sr1 hr1 vx bk1 => ?_
  refine step (rel := VR) (rel' := VR) (ma := mb) (Q' := Q) sr1 hr1 bk1 fun y b h2 H2 μ2 m2 sr2 hr2 vy bk2 => ?_
  refine hs H2 μ2 h2 x y a b _ (fun c d H' => W c d σ H') hr2 (vx.mono m2) vy (Bk.bind bk2 fun z h3 zv H3 μ3 _ m3 hr3 vz bk3 => ?_)
  cases vz with
  | bl k =>
    cases k with
    | true =>
      refine ⟨true, rfl, ?_⟩
      exact step (rel := VR) (rel' := VR) (ma := mc) (Q' := Q) (sr2.mono m3) hr3 bk3 fun w c h4 H4 μ4 m4 sr4 hr4 vw bk4 => hs' H4 μ4 h4 y w b c Q _ hr4 ((vy.mono m3).mono m4) vw bk4
    | false => exact ⟨false, rfl, bk3.val hr3 (.bl false)⟩
  | _ => exact bk3.elim
theorem st_chain (ho : OpR X (compareOp op) r) (hs : S2 g r f) (ho' : OpR X (compareOp op') r') (hs' : S2 g r' f') (ha : PE X a (tE g W ma)) (hb : PE X b (tE g W mb)) (hc : PE X c (tE g W mc))
    (hm : lastMarks [op, op'] [b, c] = false := by with_unfolding_all rfl) : PT X (.Compare a [op, op'] [b, c] pos) (tT g W (mB (mChain f f' ma mb mc))) :=
  pt_mono (pt_chain ho ho' ha hb hc hm) fun σ H Q ⟨ρ, h, μ, sr, hr, bk⟩ => by
    refine chain_of (W := W) (f := f) (f' := f') hs hs' ⟨ρ, h, μ, sr, hr, ?_⟩
    refine Bk.bind bk fun a h1 b H1 μ1 _ m hr1 hv bk1 => ?_
    cases hv with
    | bl b => exact ⟨b, rfl, bk1 b H1 μ1 Mon.refl hr1 rfl⟩
    | _ => exact bk1.elim
end

/-! ### defs by their names -/
/-- a def of the top, as it stands: its text, its parameters -/
def Df (K : PySem.W.Frag) (mg : Str → Option Value) (x : Str) (st : Stmt) (ps : List Str) : Prop := ∃ f fd, Fun K x x st f fd ∧ mg x = some (.ref f) ∧ Binds K fd ps []
/-- a def that does what F says, by at most k calls deep -/
def Cal (P : Program) (w : World) (K : PySem.W.Frag) (mg : Str → Option Value) (base : Heap) (x : Str) (k : Nat) (F : List D → MH → R D) : Prop :=
  ∃ f fd ps, FnOk P w K mg base (L2.CX P w) k f fd ps (spM (gOf w K) F) ∧ mg x = some (.ref f) ∧ PySem.W.keepIn K (.ref f) = true ∧ Binds K fd ps []
section
variable {P : Program} {w : World} {K : PySem.W.Frag} {mg : Str → Option Value} {base : Heap}
theorem df_mk {h : Heap} {x : Str} {st : Stmt} {ps : List Str} {f : Addr} {oc : Value} {od an : Option Addr} {osl : Array (Option Value)} {kV doc pm cdv ct : Value} (X : K.In h) (G : h.Ns mainGlobals mg)
    (a : PySem.W.nsIn K mainGlobals x = some (some (.ref f))) (l : K.lookup f = some ⟨oc, od, .func (PySem.W.fnOf x x (defArgs st) (defBody st) (defScope st) .none kV doc pm an cdv ct), osl⟩)
    (c : PySem.W.codeIn K cdv x = true) (k : PySem.W.keepIn K (.ref f) = true)
    (hb : ∀ (kV doc pm : Value) (an : Option Addr) (cdv ct : Value) (us : List Value), us.length = ps.length → bindArgs (PySem.W.fnOf x x (defArgs st) (defBody st) (defScope st) .none kV doc pm an cdv ct) ⟨us, []⟩ = pure (ps.zip us)) : Df K mg x st ps := by
  have F := fun_mk (st := st) l c k
  exact ⟨f, _, F, PySem.W.mg_of X G a, F.binds hb⟩
theorem Cal.mono {x : Str} {j k : Nat} {F : List D → MH → R D} (c : Cal P w K mg base x j F) (h : j ≤ k) : Cal P w K mg base x k F := by
  obtain ⟨f, fd, ps, F1, m, kp, b⟩ := c
  exact ⟨f, fd, ps, F1.mono h, m, kp, b⟩
theorem cal_mk {x : Str} {st : Stmt} {N ps : List Str} {k : Nat} {body : MS} (d : Df K mg x st ps) (S : FnScope N ps (defScope st))
    (hb : ∀ (f : Addr) (cdv : Value) (A : Around) (outer : List Env) (s : Shared) (H : Hp) (E : XK), Room k (A.deeper (PyProof.Rows.envOfC x (defScope st) s.heap.objs.size f cdv)) →
      PSs (cxOf (L2.CX P w) P w K mg base N x (defScope st) f cdv A outer s H E) (defBody st) (tS (gOf w K) (fun c d _ H' => E c d H') body)) : Cal P w K mg base x (k + 1) (mFun ps.length N.length body) := by
  obtain ⟨f, fd, F, m, b⟩ := d
  exact ⟨f, fd, ps, fn_mk F S (hb f), m, F.kp, b⟩
end
section
variable {X : Cx} {W : WX} {e : Expr} {es : List Expr} {mr : MA} {p pos : Pos}
theorem se_callC {x : Str} {k : Nat} {F : List D → MH → R D} (c : Cal X.prog X.w X.K X.mg X.base x k F) (hr : Room k X.A) (tk : Takes X W) (ha : PA X (e :: es) (tA (gOf X.w X.K) W mr)) (hg : Gl X x := by rfl) (hdb : (x == ("__debug__" : Str)) = false := by decide)
    (he : starEach (e :: es) X.env = (false, eval e X.env) :: starEach es X.env := by rfl) (hpl : (backTo pos (starEach es X.env)).any (·.1) = false := by rfl) : PE X (.Call (.Name x p) (e :: es) [] pos) (tE (gOf X.w X.K) W (mCall F mr)) := by
  obtain ⟨f, fd, ps, F1, m, kp, b⟩ := c
  exact se_call F1 hr tk m kp b ha hg hdb he hpl
end
end Mi

/-! How the mirror's parts are reckoned, step by step: each rule speaks of a part that stands applied to its slots and heap, and leaves what follows unapplied. -/
namespace Mi
open PySem L2

/-- not by rfl, so that simp writes each step out (the kernel then needs no unfolding of the rest) -/
theorem nr {α : Sort _} {a b : α} (h : a = b) : a = b := h
@[simp] theorem mVar_zero (d : D) (r : Slots) (h : MH) : mVar 0 (some d :: r) h = .ok d h := nr rfl
@[simp] theorem mVar_succ (n : Nat) (o : Option D) (r : Slots) (h : MH) : mVar (n + 1) (o :: r) h = mVar n r h := nr rfl
@[simp] theorem mC_ev (d : D) (ρ : Slots) (h : MH) : mC d ρ h = .ok d h := nr rfl
def bin2 (f : D → D → MH → R D) (b : ME) (ρ : Slots) (r : R D) : R D := r.bind fun x h1 => (b ρ h1).bind fun y h2 => f x y h2
def bin1 (f : D → D → MH → R D) (x : D) (r : R D) : R D := r.bind fun y h2 => f x y h2
@[simp] theorem mBin_ev (f : D → D → MH → R D) (a b : ME) (ρ : Slots) (h : MH) : mBin f a b ρ h = bin2 f b ρ (a ρ h) := nr rfl
@[simp] theorem bin2_ok (f : D → D → MH → R D) (b : ME) (ρ : Slots) (x : D) (h : MH) : bin2 f b ρ (.ok x h) = bin1 f x (b ρ h) := nr rfl
@[simp] theorem bin1_ok (f : D → D → MH → R D) (x y : D) (h : MH) : bin1 f x (.ok y h) = f x y h := nr rfl
def un1 (f : D → MH → R D) : R D → R D
  | .ok y h2 => f y h2
  | .exc x fs h => .exc x fs h
  | .bad => .bad
@[simp] theorem mUn_ev (f : D → MH → R D) (a : ME) (ρ : Slots) (h : MH) : mUn f a ρ h = un1 f (a ρ h) := by
  unfold mUn un1
  cases a ρ h <;> rfl
@[simp] theorem un1_ok (f : D → MH → R D) (x : D) (h : MH) : un1 f (.ok x h) = f x h := nr rfl
@[simp] theorem mNil_ev (ρ : Slots) (h : MH) : mNil ρ h = .ok [] h := nr rfl
def cons1 (t : MA) (ρ : Slots) (r : R D) : R (List D) := r.bind fun x h1 => (t ρ h1).bind fun xs h2 => .ok (x :: xs) h2
def cons2 (x : D) (r : R (List D)) : R (List D) := r.bind fun xs h2 => .ok (x :: xs) h2
@[simp] theorem mCons_ev (a : ME) (r : MA) (ρ : Slots) (h : MH) : mCons a r ρ h = cons1 r ρ (a ρ h) := nr rfl
@[simp] theorem cons1_ok (r : MA) (ρ : Slots) (x : D) (h : MH) : cons1 r ρ (.ok x h) = cons2 x (r ρ h) := nr rfl
@[simp] theorem cons2_ok (x : D) (xs : List D) (h : MH) : cons2 x (.ok xs h) = .ok (x :: xs) h := nr rfl
def call1 (F : List D → MH → R D) : R (List D) → R D
  | .ok xs h1 => F xs h1
  | .exc x fs h => .exc x fs h
  | .bad => .bad
@[simp] theorem mCall_ev (F : List D → MH → R D) (a : MA) (ρ : Slots) (h : MH) : mCall F a ρ h = call1 F (a ρ h) := by
  unfold mCall call1
  cases a ρ h <;> rfl
@[simp] theorem call1_ok (F : List D → MH → R D) (xs : List D) (h : MH) : call1 F (.ok xs h) = F xs h := nr rfl
def tup1 : R (List D) → R D
  | .ok xs h1 => if xs.length ≤ 1000000 then .ok (.tup xs) h1 else .bad
  | .exc x fs h => .exc x fs h
  | .bad => .bad
@[simp] theorem mTup_ev (a : MA) (ρ : Slots) (h : MH) : mTup a ρ h = tup1 (a ρ h) := by
  unfold mTup tup1
  cases a ρ h <;> rfl
@[simp] theorem tup1_ok (xs : List D) (h : MH) : tup1 (.ok xs h) = if xs.length ≤ 1000000 then .ok (.tup xs) h else .bad := nr rfl
def lst1 : R (List D) → R D
  | .ok xs h1 => if xs.length ≤ 1000000 then .ok (.ref h1.length) (h1 ++ [.lst xs]) else .bad
  | .exc x fs h => .exc x fs h
  | .bad => .bad
@[simp] theorem mLst_ev (a : MA) (ρ : Slots) (h : MH) : mLst a ρ h = lst1 (a ρ h) := by
  unfold mLst lst1
  cases a ρ h <;> rfl
@[simp] theorem lst1_ok (xs : List D) (h : MH) : lst1 (.ok xs h) = if xs.length ≤ 1000000 then .ok (.ref h.length) (h ++ [.lst xs]) else .bad := nr rfl
/-! tests -/
def b1 : R D → R Bool
  | .ok (.bl b) h => .ok b h
  | .ok _ _ => .bad
  | .exc x fs h => .exc x fs h
  | .bad => .bad
@[simp] theorem mB_ev (a : ME) (ρ : Slots) (h : MH) : mB a ρ h = b1 (a ρ h) := by
  unfold mB b1
  cases a ρ h with
  | ok x h1 => cases x <;> rfl
  | _ => rfl
@[simp] theorem b1_ok (b : Bool) (h : MH) : b1 (.ok (.bl b) h) = .ok b h := nr rfl
def and1 (b : MT) (ρ : Slots) : R Bool → R Bool
  | .ok true h => b ρ h
  | .ok false h => .ok false h
  | .exc x fs h => .exc x fs h
  | .bad => .bad
def or1 (b : MT) (ρ : Slots) : R Bool → R Bool
  | .ok true h => .ok true h
  | .ok false h => b ρ h
  | .exc x fs h => .exc x fs h
  | .bad => .bad
def not1 : R Bool → R Bool
  | .ok b h => .ok (!b) h
  | .exc x fs h => .exc x fs h
  | .bad => .bad
@[simp] theorem mAnd_ev (a b : MT) (ρ : Slots) (h : MH) : mAnd a b ρ h = and1 b ρ (a ρ h) := by
  unfold mAnd and1
  cases a ρ h with
  | ok x h1 => cases x <;> rfl
  | _ => rfl
@[simp] theorem mOr_ev (a b : MT) (ρ : Slots) (h : MH) : mOr a b ρ h = or1 b ρ (a ρ h) := by
  unfold mOr or1
  cases a ρ h with
  | ok x h1 => cases x <;> rfl
  | _ => rfl
@[simp] theorem mNot_ev (a : MT) (ρ : Slots) (h : MH) : mNot a ρ h = not1 (a ρ h) := by
  unfold mNot not1
  cases a ρ h <;> rfl
@[simp] theorem and1_t (b : MT) (ρ : Slots) (h : MH) : and1 b ρ (.ok true h) = b ρ h := nr rfl
@[simp] theorem and1_f (b : MT) (ρ : Slots) (h : MH) : and1 b ρ (.ok false h) = .ok false h := nr rfl
@[simp] theorem or1_t (b : MT) (ρ : Slots) (h : MH) : or1 b ρ (.ok true h) = .ok true h := nr rfl
@[simp] theorem or1_f (b : MT) (ρ : Slots) (h : MH) : or1 b ρ (.ok false h) = b ρ h := nr rfl
@[simp] theorem not1_ok (b : Bool) (h : MH) : not1 (.ok b h) = .ok (!b) h := nr rfl
def andV1 (b : ME) (ρ : Slots) : R D → R D
  | .ok (.bl true) h => b ρ h
  | .ok (.bl false) h => .ok (.bl false) h
  | .ok _ _ => .bad
  | .exc x fs h => .exc x fs h
  | .bad => .bad
def orV1 (b : ME) (ρ : Slots) : R D → R D
  | .ok (.bl true) h => .ok (.bl true) h
  | .ok (.bl false) h => b ρ h
  | .ok _ _ => .bad
  | .exc x fs h => .exc x fs h
  | .bad => .bad
def notV1 : R D → R D
  | .ok (.bl b) h => .ok (.bl (!b)) h
  | .ok _ _ => .bad
  | .exc x fs h => .exc x fs h
  | .bad => .bad
@[simp] theorem mAndV_ev (a b : ME) (ρ : Slots) (h : MH) : mAndV a b ρ h = andV1 b ρ (a ρ h) := by
  unfold mAndV andV1
  cases a ρ h with
  | ok x h1 => cases x with
    | bl b => cases b <;> rfl
    | _ => rfl
  | _ => rfl
@[simp] theorem mOrV_ev (a b : ME) (ρ : Slots) (h : MH) : mOrV a b ρ h = orV1 b ρ (a ρ h) := by
  unfold mOrV orV1
  cases a ρ h with
  | ok x h1 => cases x with
    | bl b => cases b <;> rfl
    | _ => rfl
  | _ => rfl
@[simp] theorem mNotV_ev (a : ME) (ρ : Slots) (h : MH) : mNotV a ρ h = notV1 (a ρ h) := by
  unfold mNotV notV1
  cases a ρ h with
  | ok x h1 => cases x <;> rfl
  | _ => rfl
@[simp] theorem andV1_t (b : ME) (ρ : Slots) (h : MH) : andV1 b ρ (.ok (.bl true) h) = b ρ h := nr rfl
@[simp] theorem andV1_f (b : ME) (ρ : Slots) (h : MH) : andV1 b ρ (.ok (.bl false) h) = .ok (.bl false) h := nr rfl
@[simp] theorem orV1_t (b : ME) (ρ : Slots) (h : MH) : orV1 b ρ (.ok (.bl true) h) = .ok (.bl true) h := nr rfl
@[simp] theorem orV1_f (b : ME) (ρ : Slots) (h : MH) : orV1 b ρ (.ok (.bl false) h) = b ρ h := nr rfl
@[simp] theorem notV1_ok (b : Bool) (h : MH) : notV1 (.ok (.bl b) h) = .ok (.bl (!b)) h := nr rfl
def ifE1 (a b : ME) (ρ : Slots) : R Bool → R D
  | .ok true h => a ρ h
  | .ok false h => b ρ h
  | .exc x fs h => .exc x fs h
  | .bad => .bad
@[simp] theorem mIfE_ev (c : MT) (a b : ME) (ρ : Slots) (h : MH) : mIfE c a b ρ h = ifE1 a b ρ (c ρ h) := by
  unfold mIfE ifE1
  cases c ρ h with
  | ok x h1 => cases x <;> rfl
  | _ => rfl
@[simp] theorem ifE1_t (a b : ME) (ρ : Slots) (h : MH) : ifE1 a b ρ (.ok true h) = a ρ h := nr rfl
@[simp] theorem ifE1_f (a b : ME) (ρ : Slots) (h : MH) : ifE1 a b ρ (.ok false h) = b ρ h := nr rfl
/-! isinstance, slices, methods -/
def isi1 (T : String) : R D → R D
  | .ok x h => match (tyName h x).bind fun n => kitB n T with
    | some b => .ok (.bl b) h
    | none => .bad
  | .exc x fs h => .exc x fs h
  | .bad => .bad
@[simp] theorem mIsi_ev (T : String) (a : ME) (ρ : Slots) (h : MH) : mIsi T a ρ h = isi1 T (a ρ h) := by
  unfold mIsi isi1
  cases a ρ h <;> rfl
theorem isi1_ok (T : String) (x : D) (h : MH) {n : String} {b : Bool} (hn : tyName h x = some n) (hb : kitB n T = some b) : isi1 T (.ok x h) = .ok (.bl b) h := by
  unfold isi1
  simp only [hn, Option.bind_some, hb]
@[simp] theorem isi_str_str (x : Str) (h : MH) : isi1 "str" (.ok (.str x) h) = .ok (.bl true) h := isi1_ok _ _ _ rfl (by decide +kernel)
@[simp] theorem isi_str_int (x : Int) (h : MH) : isi1 "str" (.ok (.int x) h) = .ok (.bl false) h := isi1_ok _ _ _ rfl (by decide +kernel)
@[simp] theorem isi_str_non (h : MH) : isi1 "str" (.ok .non h) = .ok (.bl false) h := isi1_ok _ _ _ rfl (by decide +kernel)
@[simp] theorem isi_str_bl (b : Bool) (h : MH) : isi1 "str" (.ok (.bl b) h) = .ok (.bl false) h := isi1_ok _ _ _ rfl (by decide +kernel)
@[simp] theorem isi_str_tup (l : List D) (h : MH) : isi1 "str" (.ok (.tup l) h) = .ok (.bl false) h := isi1_ok _ _ _ rfl (by decide +kernel)
@[simp] theorem isi_bool_bl (b : Bool) (h : MH) : isi1 "bool" (.ok (.bl b) h) = .ok (.bl true) h := isi1_ok _ _ _ rfl (by decide +kernel)
@[simp] theorem isi_bool_int (b : Int) (h : MH) : isi1 "bool" (.ok (.int b) h) = .ok (.bl false) h := isi1_ok _ _ _ rfl (by decide +kernel)
@[simp] theorem isi_int_int (b : Int) (h : MH) : isi1 "int" (.ok (.int b) h) = .ok (.bl true) h := isi1_ok _ _ _ rfl (by decide +kernel)
@[simp] theorem isi_tup_tup (l : List D) (h : MH) : isi1 "tuple" (.ok (.tup l) h) = .ok (.bl true) h := isi1_ok _ _ _ rfl (by decide +kernel)
@[simp] theorem isi_tup_str (x : Str) (h : MH) : isi1 "tuple" (.ok (.str x) h) = .ok (.bl false) h := isi1_ok _ _ _ rfl (by decide +kernel)
@[simp] theorem isi_tup_int (x : Int) (h : MH) : isi1 "tuple" (.ok (.int x) h) = .ok (.bl false) h := isi1_ok _ _ _ rfl (by decide +kernel)
@[simp] theorem isi_tup_non (h : MH) : isi1 "tuple" (.ok .non h) = .ok (.bl false) h := isi1_ok _ _ _ rfl (by decide +kernel)
@[simp] theorem mNo_ev (ρ : Slots) (h : MH) : mNo ρ h = .ok none h := nr rfl
def some1 : R D → R (Option Int)
  | .ok (.int i) h => .ok (some i) h
  | .ok _ _ => .bad
  | .exc x fs h => .exc x fs h
  | .bad => .bad
@[simp] theorem mSome_ev (a : ME) (ρ : Slots) (h : MH) : mSome a ρ h = some1 (a ρ h) := by
  unfold mSome some1
  cases a ρ h with
  | ok x h1 => cases x <;> rfl
  | _ => rfl
@[simp] theorem some1_ok (i : Int) (h : MH) : some1 (.ok (.int i) h) = .ok (some i) h := nr rfl
def sl1 (lo hi : MP) (ρ : Slots) (r : R D) : R D := r.bind fun x h1 => (lo ρ h1).bind fun l h2 => (hi ρ h2).bind fun u h3 => dSl x l u h3
def sl2 (x : D) (hi : MP) (ρ : Slots) (r : R (Option Int)) : R D := r.bind fun l h2 => (hi ρ h2).bind fun u h3 => dSl x l u h3
def sl3 (x : D) (l : Option Int) (r : R (Option Int)) : R D := r.bind fun u h3 => dSl x l u h3
@[simp] theorem mSl_ev (a : ME) (lo hi : MP) (ρ : Slots) (h : MH) : mSl a lo hi ρ h = sl1 lo hi ρ (a ρ h) := nr rfl
@[simp] theorem sl1_ok (lo hi : MP) (ρ : Slots) (x : D) (h : MH) : sl1 lo hi ρ (.ok x h) = sl2 x hi ρ (lo ρ h) := nr rfl
@[simp] theorem sl2_ok (x : D) (hi : MP) (ρ : Slots) (l : Option Int) (h : MH) : sl2 x hi ρ (.ok l h) = sl3 x l (hi ρ h) := nr rfl
@[simp] theorem sl3_ok (x : D) (l u : Option Int) (h : MH) : sl3 x l (.ok u h) = dSl x l u h := nr rfl
def meth1 (T : D → MH → Bool) (f : D → List D → MH → R D) (t : MA) (ρ : Slots) (r : R D) : R D := r.bind fun x h1 => if T x h1 = true then (t ρ h1).bind fun xs h2 => f x xs h2 else .bad
def meth2 (f : D → List D → MH → R D) (x : D) (r : R (List D)) : R D := r.bind fun xs h2 => f x xs h2
@[simp] theorem mMeth_ev (T : D → MH → Bool) (f : D → List D → MH → R D) (a : ME) (r : MA) (ρ : Slots) (h : MH) : mMeth T f a r ρ h = meth1 T f r ρ (a ρ h) := nr rfl
@[simp] theorem meth1_ok (T : D → MH → Bool) (f : D → List D → MH → R D) (r : MA) (ρ : Slots) (x : D) (h : MH) : meth1 T f r ρ (.ok x h) = if T x h = true then meth2 f x (r ρ h) else .bad := nr rfl
@[simp] theorem meth2_ok (f : D → List D → MH → R D) (x : D) (xs : List D) (h : MH) : meth2 f x (.ok xs h) = f x xs h := nr rfl
@[simp] theorem isListD_ref (i : Nat) (h : MH) : isListD (.ref i) h = (getL h i).isSome := nr rfl
@[simp] theorem isStrD_str (x : Str) (h : MH) : isStrD (.str x) h = true := nr rfl
/-! statements -/
def Out.then (b : MS) : Out → Out
  | .nx ρ h => b ρ h
  | o => o
@[simp] theorem mSeq_ev (a b : MS) (ρ : Slots) (h : MH) : mSeq a b ρ h = (a ρ h).then b := by
  unfold mSeq Out.then
  cases a ρ h <;> rfl
@[simp] theorem then_nx (b : MS) (ρ : Slots) (h : MH) : Out.then b (.nx ρ h) = b ρ h := nr rfl
@[simp] theorem then_rt (b : MS) (d : D) (h : MH) : Out.then b (.rt d h) = .rt d h := nr rfl
@[simp] theorem then_bk (b : MS) (ρ : Slots) (h : MH) : Out.then b (.bk ρ h) = .bk ρ h := nr rfl
@[simp] theorem then_ct (b : MS) (ρ : Slots) (h : MH) : Out.then b (.ct ρ h) = .ct ρ h := nr rfl
@[simp] theorem then_exc (b : MS) (x : Str) (fs : List (Str × D)) (ρ : Slots) (h : MH) : Out.then b (.exc x fs ρ h) = .exc x fs ρ h := nr rfl
@[simp] theorem mSkip_ev (ρ : Slots) (h : MH) : mSkip ρ h = .nx ρ h := nr rfl
@[simp] theorem mBreak_ev (ρ : Slots) (h : MH) : mBreak ρ h = .bk ρ h := nr rfl
@[simp] theorem mCont_ev (ρ : Slots) (h : MH) : mCont ρ h = .ct ρ h := nr rfl
@[simp] theorem mRetN_ev (ρ : Slots) (h : MH) : mRetN ρ h = .rt .non h := nr rfl
def asg1 (i : Nat) (ρ : Slots) : R D → Out
  | .ok d h => .nx (ρ.set i (some d)) h
  | .exc x fs h => .exc x fs ρ h
  | .bad => .bad
def ret1 (ρ : Slots) : R D → Out
  | .ok d h => .rt d h
  | .exc x fs h => .exc x fs ρ h
  | .bad => .bad
def drop1 (ρ : Slots) : R D → Out
  | .ok d h => .nx ρ h
  | .exc x fs h => .exc x fs ρ h
  | .bad => .bad
def if1 (a b : MS) (ρ : Slots) : R Bool → Out
  | .ok true h => a ρ h
  | .ok false h => b ρ h
  | .exc x fs h => .exc x fs ρ h
  | .bad => .bad
@[simp] theorem mAsg_ev (i : Nat) (e : ME) (ρ : Slots) (h : MH) : mAsg i e ρ h = asg1 i ρ (e ρ h) := by
  unfold mAsg asg1
  cases e ρ h <;> rfl
@[simp] theorem asg1_ok (i : Nat) (ρ : Slots) (d : D) (h : MH) : asg1 i ρ (.ok d h) = .nx (ρ.set i (some d)) h := nr rfl
@[simp] theorem mRet_ev (e : ME) (ρ : Slots) (h : MH) : mRet e ρ h = ret1 ρ (e ρ h) := by
  unfold mRet ret1
  cases e ρ h <;> rfl
@[simp] theorem ret1_ok (ρ : Slots) (d : D) (h : MH) : ret1 ρ (.ok d h) = .rt d h := nr rfl
@[simp] theorem mDrop_ev (e : ME) (ρ : Slots) (h : MH) : mDrop e ρ h = drop1 ρ (e ρ h) := by
  unfold mDrop drop1
  cases e ρ h <;> rfl
@[simp] theorem drop1_ok (ρ : Slots) (d : D) (h : MH) : drop1 ρ (.ok d h) = .nx ρ h := nr rfl
@[simp] theorem mIf_ev (c : MT) (a b : MS) (ρ : Slots) (h : MH) : mIf c a b ρ h = if1 a b ρ (c ρ h) := by
  unfold mIf if1
  cases c ρ h with
  | ok x h1 => cases x <;> rfl
  | _ => rfl
@[simp] theorem if1_t (a b : MS) (ρ : Slots) (h : MH) : if1 a b ρ (.ok true h) = a ρ h := nr rfl
@[simp] theorem if1_f (a b : MS) (ρ : Slots) (h : MH) : if1 a b ρ (.ok false h) = b ρ h := nr rfl
def for1 (tg : MG) (body : MS) (ρ : Slots) : R (List D × (MH → Bool)) → Out
  | .ok a h => forGo a.2 tg body a.1 ρ h
  | .exc x fs h => .exc x fs ρ h
  | .bad => .bad
@[simp] theorem mFor_ev (it : MI) (tg : MG) (body : MS) (ρ : Slots) (h : MH) : mFor it tg body ρ h = for1 tg body ρ (it ρ h) := by
  unfold mFor for1
  cases it ρ h <;> rfl
@[simp] theorem for1_ok (tg : MG) (body : MS) (ρ : Slots) (l : List D) (gd : MH → Bool) (h : MH) : for1 tg body ρ (.ok (l, gd) h) = forGo gd tg body l ρ h := nr rfl
def rg1 (f : Int → Nat → List D) : R D → R (List D × (MH → Bool))
  | .ok x h => dR1 f x h
  | .exc x fs h => .exc x fs h
  | .bad => .bad
@[simp] theorem mRange1_ev (a : ME) (ρ : Slots) (h : MH) : mRange1 a ρ h = rg1 rangeD (a ρ h) := by
  unfold mRange1 rg1
  cases a ρ h <;> rfl
@[simp] theorem mRev1_ev (a : ME) (ρ : Slots) (h : MH) : mRev1 a ρ h = rg1 revRangeD (a ρ h) := by
  unfold mRev1 rg1
  cases a ρ h <;> rfl
@[simp] theorem rg1_ok (f : Int → Nat → List D) (j : Int) (h : MH) : rg1 f (.ok (.int j) h) = if lim62 j = true then .ok (f 0 j.toNat, yes) h else .bad := nr rfl
def rg2 (f : Int → Nat → List D) (b : ME) (ρ : Slots) (r : R D) : R (List D × (MH → Bool)) := r.bind fun x h => (b ρ h).bind fun y h2 => dR2 f x y h2
def rg3 (f : Int → Nat → List D) (x : D) (r : R D) : R (List D × (MH → Bool)) := r.bind fun y h => dR2 f x y h
@[simp] theorem mRange2_ev (a b : ME) (ρ : Slots) (h : MH) : mRange2 a b ρ h = rg2 rangeD b ρ (a ρ h) := nr rfl
@[simp] theorem mRev2_ev (a b : ME) (ρ : Slots) (h : MH) : mRev2 a b ρ h = rg2 revRangeD b ρ (a ρ h) := nr rfl
@[simp] theorem rg2_ok (f : Int → Nat → List D) (b : ME) (ρ : Slots) (x : D) (h : MH) : rg2 f b ρ (.ok x h) = rg3 f x (b ρ h) := nr rfl
@[simp] theorem rg3_ok (f : Int → Nat → List D) (i j : Int) (h : MH) : rg3 f (.int i) (.ok (.int j) h) = if lim62 i = true ∧ lim62 j = true then .ok (f i (j - i).toNat, yes) h else .bad := nr rfl
def iter1 : R D → R (List D × (MH → Bool))
  | .ok x h => match itemsOf x h with
    | some r => .ok r h
    | none => .bad
  | .exc x fs h => .exc x fs h
  | .bad => .bad
@[simp] theorem mIter_ev (a : ME) (ρ : Slots) (h : MH) : mIter a ρ h = iter1 (a ρ h) := by
  unfold mIter iter1
  cases a ρ h <;> rfl
@[simp] theorem iter1_tup (l : List D) (h : MH) : iter1 (.ok (.tup l) h) = .ok (l, yes) h := nr rfl
@[simp] theorem iter1_str (z : Str) (h : MH) : iter1 (.ok (.str z) h) = .ok (z.cps.toList.map fun c => .str ⟨#[c]⟩, yes) h := nr rfl
theorem iter1_ref (i : Nat) (h : MH) (l : List D) (hl : getL h i = some l) : iter1 (.ok (.ref i) h) = .ok (l, fun h' => decide (getL h' i = some l)) h := by
  simp [iter1, itemsOf, hl]
@[simp] theorem yes_ev (h : MH) : yes h = true := nr rfl
@[simp] theorem mgName_ev (i : Nat) (d : D) (ρ : Slots) : mgName i d ρ = some (ρ.set i (some d)) := nr rfl
/-- a def's end -/
def fin1 : Out → R D
  | .nx _ h => .ok .non h
  | .rt d h => .ok d h
  | .exc x fs _ h => .exc x fs h
  | _ => .bad
@[simp] theorem fin1_nx (ρ : Slots) (h : MH) : fin1 (.nx ρ h) = .ok .non h := nr rfl
@[simp] theorem fin1_rt (d : D) (h : MH) : fin1 (.rt d h) = .ok d h := nr rfl
@[simp] theorem fin1_exc (x : Str) (fs : List (Str × D)) (ρ : Slots) (h : MH) : fin1 (.exc x fs ρ h) = .exc x fs h := nr rfl
@[simp] theorem rep0 : List.replicate 0 (none : Option D) = [] := nr rfl
/-! ### loops -/
theorem rangeD_get {i : Int} {n k : Nat} {d : D} (h : (rangeD i n)[k]? = some d) : k < n ∧ d = .int (i + (k : Int)) := by
  simp only [rangeD, List.getElem?_map, Option.map_eq_some_iff] at h
  obtain ⟨a, h1, h2⟩ := h
  have := List.getElem?_eq_some_iff.mp h1
  obtain ⟨lt, e⟩ := this
  simp at lt e
  subst e
  exact ⟨lt, h2.symm⟩
@[simp] theorem rangeD_length (i : Int) (n : Nat) : (rangeD i n).length = n := by simp [rangeD]
@[simp] theorem revRangeD_length (i : Int) (n : Nat) : (revRangeD i n).length = n := by simp [revRangeD]
/-! ### numbers of bits, places -/
theorem bits_lt {i : Int} {n : Nat} (h : i.natAbs < 2 ^ n) : Builtin.Int.intBits i ≤ n := by
  unfold Builtin.Int.intBits
  split
  · omega
  · rename_i hz
    have : i.natAbs.log2 < n := (Nat.log2_lt (by simpa using hz)).mpr h
    omega
theorem atI_in {α : Type} {l : List α} {i : Int} (h0 : 0 ≤ i) (h1 : i < (l.length : Int)) : ∃ c, atI l i = some c ∧ l[i.toNat]? = some c := by
  have lt : i.toNat < l.length := by omega
  refine ⟨l[i.toNat], ?_, List.getElem?_eq_getElem lt⟩
  unfold atI ixN
  rw [if_pos h0, if_pos h1]
  simp [lt]
theorem atI_at {α : Type} {l : List α} {k : Nat} {c : α} (h : l[k]? = some c) : atI l (k : Int) = some c := by
  have lt := (List.getElem?_eq_some_iff.mp h).1
  unfold atI ixN
  rw [if_pos (by omega), if_pos (by omega)]
  simpa using h
/-! ### operators at plain values -/
section
variable (i j : Int) (x y : Str) (a b : Bool) (l m : List D) (h : MH)
@[simp] theorem dAdd_int : dAdd (.int i) (.int j) h = .ok (.int (i + j)) h := nr rfl
@[simp] theorem dAdd_str : dAdd (.str x) (.str y) h = if x.length + y.length ≤ 1000000 then .ok (.str (x ++ y)) h else .bad := nr rfl
@[simp] theorem dAdd_tup : dAdd (.tup l) (.tup m) h = if l.length + m.length ≤ 1000000 then .ok (.tup (l ++ m)) h else .bad := nr rfl
@[simp] theorem dSub_int : dSub (.int i) (.int j) h = .ok (.int (i - j)) h := nr rfl
theorem dMul_int : dMul (.int i) (.int j) h = if (Builtin.Int.intBits i : Int) + (Builtin.Int.intBits j : Int) ≤ 134217728 then .ok (.int (i * j)) h else .bad := rfl
@[simp] theorem dMul_str : dMul (.str x) (.int j) h = if j ≤ 1000000 ∧ -1000000 ≤ j ∧ x.length * j.toNat ≤ 1000000 then .ok (.str (Txt.mul x j)) h else .bad := nr rfl
theorem dFdiv_int : dFdiv (.int i) (.int j) h = if 0 < j ∧ j.natAbs.log2 < 9000 then .ok (.int (i / j)) h else .bad := rfl
@[simp] theorem dMod_int : dMod (.int i) (.int j) h = if 0 < j then .ok (.int (i % j)) h else .bad := nr rfl
@[simp] theorem dFdiv_small (h0 : 0 < j) (h1 : j < 18446744073709551616) : dFdiv (.int i) (.int j) h = .ok (.int (i / j)) h := by
  rw [dFdiv_int, if_pos ⟨h0, Nat.lt_trans (PySem.Flt.log2_lt_of (k := 64) (by decide) (by omega)) (by decide)⟩]
theorem dMul_bits {a b : Nat} (ha : Builtin.Int.intBits i ≤ a) (hb : Builtin.Int.intBits j ≤ b) (hab : a + b ≤ 134217728) : dMul (.int i) (.int j) h = .ok (.int (i * j)) h := by
  rw [dMul_int, if_pos (by omega)]
theorem bits_small {i : Int} (h0 : -18446744073709551616 < i) (h1 : i < 18446744073709551616) : Builtin.Int.intBits i ≤ 64 := bits_lt (by omega)
theorem dMul_s (h0 : -18446744073709551616 < i) (h1 : i < 18446744073709551616) (h2 : -18446744073709551616 < j) (h3 : j < 18446744073709551616) : dMul (.int i) (.int j) h = .ok (.int (i * j)) h := dMul_bits i j h (bits_small h0 h1) (bits_small h2 h3) (by decide)
@[simp] theorem dPow_int : dPow (.int i) (.int j) h = if 0 ≤ j ∧ j ≤ 1000000 ∧ i.natAbs < 2 ^ 64 then .ok (.int (i ^ j.toNat)) h else .bad := nr rfl
@[simp] theorem dShl_int : dShl (.int i) (.int j) h = if 0 ≤ j ∧ j ≤ 1000000 ∧ i.natAbs < 2 ^ 64 then .ok (.int (i * 2 ^ j.toNat)) h else .bad := nr rfl
@[simp] theorem dLt_int : dLt (.int i) (.int j) h = .ok (.bl (decide (i < j))) h := nr rfl
@[simp] theorem dLe_int : dLe (.int i) (.int j) h = .ok (.bl (decide (i ≤ j))) h := nr rfl
@[simp] theorem dGt_int : dGt (.int i) (.int j) h = .ok (.bl (decide (j < i))) h := nr rfl
@[simp] theorem dGe_int : dGe (.int i) (.int j) h = .ok (.bl (decide (j ≤ i))) h := nr rfl
@[simp] theorem dNeg_int : dNeg (.int i) h = .ok (.int (-i)) h := nr rfl
@[simp] theorem eqD_int : eqD (.int i) (.int j) h = some (decide (i = j)) := by
  simp [eqD, scalD]
@[simp] theorem eqD_str : eqD (.str x) (.str y) h = some (decide (x = y)) := by
  simp [eqD, scalD]
@[simp] theorem eqD_bl : eqD (.bl a) (.bl b) h = some (decide (a = b)) := by
  simp [eqD, scalD]
@[simp] theorem eqD_non : eqD .non .non h = some true := by
  simp [eqD, scalD]
@[simp] theorem eqD_int_non : eqD (.int i) .non h = some false := by
  simp [eqD, scalD]
@[simp] theorem eqD_non_int : eqD .non (.int i) h = some false := by
  simp [eqD, scalD]
theorem dEq_of {a b : D} {k : Bool} {h : MH} (e : eqD a b h = some k) : dEq a b h = .ok (.bl k) h := by unfold dEq; rw [e]
theorem dNe_of {a b : D} {k : Bool} {h : MH} (e : eqD a b h = some k) : dNe a b h = .ok (.bl (!k)) h := by unfold dNe; rw [e]
@[simp] theorem dEq_int : dEq (.int i) (.int j) h = .ok (.bl (decide (i = j))) h := dEq_of (eqD_int i j h)
@[simp] theorem dNe_int : dNe (.int i) (.int j) h = .ok (.bl (!decide (i = j))) h := dNe_of (eqD_int i j h)
@[simp] theorem dEq_str : dEq (.str x) (.str y) h = .ok (.bl (decide (x = y))) h := dEq_of (eqD_str x y h)
@[simp] theorem dNe_str : dNe (.str x) (.str y) h = .ok (.bl (!decide (x = y))) h := dNe_of (eqD_str x y h)
@[simp] theorem dEq_bl : dEq (.bl a) (.bl b) h = .ok (.bl (decide (a = b))) h := dEq_of (eqD_bl a b h)
@[simp] theorem dIsN_ev (d : D) : dIsN d .non h = .ok (.bl (decide (d = .non))) h := nr rfl
@[simp] theorem dNotN_ev (d : D) : dNotN d .non h = .ok (.bl (!decide (d = .non))) h := nr rfl
@[simp] theorem dLen_str : dLen [.str x] h = if x.length ≤ 1000000 then .ok (.int x.length) h else .bad := nr rfl
@[simp] theorem dLen_tup : dLen [.tup l] h = .ok (.int l.length) h := nr rfl
theorem dLen_ref {i : Nat} {h : MH} {l : List D} (e : getL h i = some l) : dLen [.ref i] h = .ok (.int l.length) h := by simp [dLen, e]
@[simp] theorem dAbs_ev : dAbs [.int i] h = .ok (.int (if i < 0 then -i else i)) h := nr rfl
@[simp] theorem dMax_ev : dMax [.int i, .int j] h = .ok (.int (if j > i then j else i)) h := nr rfl
@[simp] theorem dMin_ev : dMin [.int i, .int j] h = .ok (.int (if j < i then j else i)) h := nr rfl
@[simp] theorem dInt_int : dInt [.int i] h = .ok (.int i) h := nr rfl
@[simp] theorem dInt_bl : dInt [.bl a] h = .ok (.int (if a then 1 else 0)) h := nr rfl
@[simp] theorem dSl_str (lo hi : Option Int) : dSl (.str x) lo hi h = if x.length ≤ 1000000 then .ok (.str (cutS x lo hi)) h else .bad := nr rfl
@[simp] theorem dSl_tup (lo hi : Option Int) : dSl (.tup l) lo hi h = .ok (.tup (cutD l lo hi)) h := nr rfl
theorem dSl_ref {i : Nat} {h : MH} {l : List D} (e : getL h i = some l) (lo hi : Option Int) : dSl (.ref i) lo hi h = .ok (.ref h.length) (h ++ [.lst (cutD l lo hi)]) := by simp [dSl, e]
theorem dIx_str {c : Nat} {x : Str} {i : Int} (hz : x.length ≤ 1000000) (e : atI x.cps.toList i = some c) : dIx (.str x) (.int i) h = .ok (.str ⟨#[c]⟩) h := by
  simp [dIx, hz, e]
theorem dIx_tup {d : D} {l : List D} {i : Int} (e : atI l i = some d) : dIx (.tup l) (.int i) h = .ok d h := by simp [dIx, seqOf, e]
theorem dIx_ref {d : D} {l : List D} {k : Nat} {i : Int} {h : MH} (hl : getL h k = some l) (e : atI l i = some d) : dIx (.ref k) (.int i) h = .ok d h := by simp [dIx, seqOf, hl, e]
end
end Mi

namespace Mi
open PySem L2

/-! ### zip of two lists -/
def zipD (l m : List D) : List D := (l.zip m).map fun p => .tup [p.1, p.2]
def mZip (a b : ME) : MI := fun ρ h => (a ρ h).bind fun x h1 => (b ρ h1).bind fun y h2 => match x, y with
  | .ref i, .ref j => match getL h2 i, getL h2 j with
    | some l, some m => .ok (zipD l m, fun h' => decide (getL h' i = some l) && decide (getL h' j = some m)) h2
    | _, _ => .bad
  | _, _ => .bad
section
variable {X : Cx} {g : G} {W : WX} {a b : Expr} {ma mb : ME} {pos : Pos}
/-! ### xs[::-1], list(range(..)) -/
def dRevL (x : D) (h : MH) : R D := match x with
  | .ref i => match getL h i with
    | some l => .ok (.ref h.length) (h ++ [.lst l.reverse])
    | none => .bad
  | _ => .bad
def mRevL (a : ME) : ME := mUn dRevL a
theorem se_revL {k : Nat} {p1 p2 p3 : Pos} (ha : PE X a (tE g W ma)) (hK : X.K = g.K := by rfl) : PE X (.Subscript a (.Slice none none (some (.UnaryOp .USub (.Constant (.int 1) k p1) p2)) p3) pos) (tE g W (mRevL ma)) :=
  pe_mono (pe_revL ha) fun σ H Q ⟨ρ, h, μ, sr, hr, bk⟩ => step (rel := VR) (rel' := VR) (ma := ma) (Q' := Q) sr hr bk fun x d h1 H1 μ1 m1 sr1 hr1 vx bk1 => by
    rw [hK]
    cases vx with
    | @ref p i hi =>
      simp only [dRevL] at bk1
      split at bk1
      · rename_i l e
        obtain ⟨xs, hs, vs⟩ := hr1.list hi e
        exact ⟨p, xs, rfl, hs, fun r hr' => bk1.newL hr1 vs.reverse hr'⟩
      · exact bk1.elim
    | _ => exact bk1.elim
def lstRg (i j : Int) (h : MH) : R D := if 0 ≤ i ∧ j ≤ 1000000 ∧ i ≤ 1000000 ∧ 0 ≤ j then .ok (.ref h.length) (h ++ [.lst (rangeD i (j - i).toNat)]) else .bad
def mListRg1 (a : ME) : ME := mUn (fun x h => match x with
  | .int j => lstRg 0 j h
  | _ => .bad) a
def mListRg2 (a b : ME) : ME := mBin (fun x y h => match x, y with
  | .int i, .int j => lstRg i j h
  | _, _ => .bad) a b
/-! ### t.index(x) -/
def fidx (z : Str) : List Str → Option Nat
  | [] => none
  | y :: r => if y = z then some 0 else (fidx z r).map (· + 1)
def dTIdx (x y : D) (h : MH) : R D := match x, y with
  | .tup l, .str z => match allStr l with
    | some ys => match fidx z ys with
      | some j => .ok (.int j) h
      | none => .bad
    | none => .bad
  | _, _ => .bad
def mTIndex (a b : ME) : ME := fun ρ h => (a ρ h).bind fun x h1 => match x with
  | .tup l => (b ρ h1).bind fun y h2 => dTIdx (.tup l) y h2
  | _ => .bad
end
/-! ### sorted: ints, texts (fewer than 64) -/
abbrev ltC : List Nat → List Nat → Bool := PySem.Spec.ltCps
theorem ltC_asym : ∀ l m : List Nat, ltC l m = false → ltC m l = false → l = m
  | [], [], _, _ => rfl
  | [], _ :: _, h, _ => by simp [ltC, PySem.Spec.ltCps] at h
  | _ :: _, [], _, h => by simp [ltC, PySem.Spec.ltCps] at h
  | a :: r, b :: t, h1, h2 => by
    simp only [ltC, PySem.Spec.ltCps, Bool.or_eq_false_iff, decide_eq_false_iff_not, Bool.and_eq_false_iff, beq_eq_false_iff_ne] at h1 h2
    have e : a = b := by omega
    subst e
    have h3 : ltC r t = false := h1.2.resolve_left (fun z => z rfl)
    have h4 : ltC t r = false := h2.2.resolve_left (fun z => z rfl)
    rw [ltC_asym r t h3 h4]
theorem ltC_trans : ∀ l m n : List Nat, ltC m l = false → ltC n m = false → ltC n l = false
  | [], [], [], _, _ => rfl
  | [], [], _ :: _, _, h => h
  | [], b :: t, [], _, h => by simp [ltC, PySem.Spec.ltCps] at h
  | [], b :: t, c :: u, h, _ => by simp [ltC, PySem.Spec.ltCps]
  | a :: r, [], _, h, _ => by simp [ltC, PySem.Spec.ltCps] at h
  | a :: r, b :: t, [], _, h => by simp [ltC, PySem.Spec.ltCps] at h
  | a :: r, b :: t, c :: u, h1, h2 => by
    simp only [ltC, PySem.Spec.ltCps, Bool.or_eq_false_iff, decide_eq_false_iff_not, Bool.and_eq_false_iff, beq_eq_false_iff_ne] at h1 h2 ⊢
    refine ⟨by omega, ?_⟩
    by_cases e : c = a
    · right
      have e1 : b = a := by omega
      have e2 : c = b := by omega
      exact ltC_trans r t u (h1.2.resolve_left (fun z => z e1)) (h2.2.resolve_left (fun z => z e2))
    · exact .inl e
theorem ltC_total : ∀ l m : List Nat, ltC l m = false ∨ ltC m l = false
  | [], [] => .inl rfl
  | [], _ :: _ => .inr rfl
  | _ :: _, [] => .inl rfl
  | a :: r, b :: t => by
    simp only [ltC, PySem.Spec.ltCps, Bool.or_eq_false_iff, decide_eq_false_iff_not, Bool.and_eq_false_iff, beq_eq_false_iff_ne]
    rcases Nat.lt_trichotomy a b with h | h | h
    · exact .inr ⟨by omega, .inl (by omega)⟩
    · subst h
      rcases ltC_total r t with q | q
      · exact .inl ⟨by omega, .inr q⟩
      · exact .inr ⟨by omega, .inr q⟩
    · exact .inl ⟨by omega, .inl (by omega)⟩
def leS (a b : Str) : Bool := !ltC b.cps.toList a.cps.toList
theorem leS_trans (a b c : Str) (h1 : leS a b = true) (h2 : leS b c = true) : leS a c = true := by
  simp only [leS, Bool.not_eq_true'] at h1 h2 ⊢
  exact ltC_trans _ _ _ h1 h2
theorem leS_total (a b : Str) : (leS a b || leS b a) = true := by
  rw [Bool.or_eq_true]
  simp only [leS, Bool.not_eq_true']
  rcases ltC_total b.cps.toList a.cps.toList with h | h
  · exact .inl h
  · exact .inr h
theorem leS_asym (a b : Str) (h1 : leS a b = true) (h2 : leS b a = true) : a = b := by
  simp only [leS, Bool.not_eq_true'] at h1 h2
  have e := ltC_asym _ _ h2 h1
  obtain ⟨⟨a⟩⟩ := a
  obtain ⟨⟨b⟩⟩ := b
  have : a = b := e
  rw [this]
def sortS (l : List Str) : List Str := l.mergeSort leS
def sortI (l : List Int) : List Int := l.mergeSort fun a b => decide (a ≤ b)
theorem rising_pair : ∀ (l : List Str) (p : Str), PyProof.Rows.risingS p l = true → (p :: l).Pairwise fun a b => leS a b = true
  | [], p, _ => List.pairwise_singleton _ _
  | x :: r, p, h => by
    simp only [PyProof.Rows.risingS, Bool.and_eq_true] at h
    have ih := rising_pair r x h.2
    have hx : leS p x = true := h.1
    refine List.pairwise_cons.mpr ⟨fun y hy => ?_, ih⟩
    rcases List.mem_cons.mp hy with rfl | hy
    · exact hx
    · exact leS_trans p x y hx ((List.pairwise_cons.mp ih).1 y hy)
theorem sortedS_pair : ∀ {l : List Str}, PyProof.Rows.sortedS l = true → l.Pairwise fun a b => leS a b = true
  | [], _ => List.Pairwise.nil
  | x :: r, h => rising_pair r x h
theorem sortS_is {ys xs : List Str} (hp : ys.Perm xs) (hs : PyProof.Rows.sortedS ys = true) : ys = sortS xs :=
  List.Perm.eq_of_pairwise (le := fun a b => leS a b = true) (fun a b _ _ h1 h2 => leS_asym a b h1 h2) (sortedS_pair hs) (List.pairwise_mergeSort leS_trans leS_total xs) (hp.trans (List.mergeSort_perm xs leS).symm)
theorem sortI_is {ys xs : List Int} (hp : ys.Perm xs) (hs : ys.Pairwise (· ≤ ·)) : ys = sortI xs :=
  List.Perm.eq_of_pairwise (le := (· ≤ ·)) (fun a b _ _ h1 h2 => Int.le_antisymm h1 h2) hs
    ((List.pairwise_mergeSort (le := fun a b => decide (a ≤ b)) (fun a b c h1 h2 => by simp only [decide_eq_true_eq] at *; omega) (fun a b => by simp only [Bool.or_eq_true, decide_eq_true_eq]; omega) xs).imp fun h => by simpa using h) (hp.trans (List.mergeSort_perm xs _).symm)
def allInt : List D → Option (List Int)
  | [] => some []
  | .int b :: r => (allInt r).map (b :: ·)
  | _ => none
theorem ints_of {g : G} {H : Hp} {μ : List Addr} : ∀ {xs : List V} {ds : List D} {bs : List Int}, VRs g H μ xs ds → allInt ds = some bs → xs = bs.map V.int
  | _, _, _, .nil, e => by cases e; rfl
  | _, _, _, .cons (d := d) a b, e => by
    cases a with
    | int k =>
      simp only [allInt, Option.map_eq_some_iff] at e
      obtain ⟨r, e, rfl⟩ := e
      rw [ints_of b e]; rfl
    | _ => cases e
theorem vrs_strs {g : G} {H : Hp} {μ : List Addr} : ∀ ns : List Str, VRs g H μ (ns.map V.str) (ns.map D.str)
  | [] => .nil
  | n :: ns => .cons (.str n) (vrs_strs ns)
def dSorted : List D → MH → R D
  | [.ref i], h => match getL h i with
    | some l => if l.length < 64 then match allStr l with
      | some ys => .ok (.ref h.length) (h ++ [.lst ((sortS ys).map .str)])
      | none => match allInt l with
        | some ys => .ok (.ref h.length) (h ++ [.lst ((sortI ys).map .int)])
        | none => .bad else .bad
    | none => .bad
  | _, _ => .bad
section
variable {X : Cx} {g : G}
theorem callR_or {f : Value} {r r' : List V → Hp → VK → Prop} (h : CallR X f r) (h' : CallR X f r') : CallR X f (fun xs H Q => r xs H Q ∨ r' xs H Q) := by
  intro pins s σ H xs us Q I rv q
  rcases q with q | q
  · exact h pins s σ H xs us Q I rv q
  · exact h' pins s σ H xs us Q I rv q
theorem allStr_len : ∀ {ds : List D} {bs : List Str}, allStr ds = some bs → ds.length = bs.length
  | [], _, e => by cases e; rfl
  | .str b :: r, _, e => by
    simp only [allStr, Option.map_eq_some_iff] at e
    obtain ⟨t, e, rfl⟩ := e
    rw [List.length_cons, List.length_cons, allStr_len e]
  | .non :: _, _, e => by cases e
  | .bl _ :: _, _, e => by cases e
  | .int _ :: _, _, e => by cases e
  | .tup _ :: _, _, e => by cases e
  | .ref _ :: _, _, e => by cases e
theorem allInt_len : ∀ {ds : List D} {bs : List Int}, allInt ds = some bs → ds.length = bs.length
  | [], _, e => by cases e; rfl
  | .int b :: r, _, e => by
    simp only [allInt, Option.map_eq_some_iff] at e
    obtain ⟨t, e, rfl⟩ := e
    rw [List.length_cons, List.length_cons, allInt_len e]
  | .non :: _, _, e => by cases e
  | .bl _ :: _, _, e => by cases e
  | .str _ :: _, _, e => by cases e
  | .tup _ :: _, _, e => by cases e
  | .ref _ :: _, _, e => by cases e
theorem op_sorted : CallR X (.builtin "sorted") (fun xs H Q => rSortedS X.K xs H Q ∨ rSorted X.K xs H Q) := callR_or cr_sortedS cr_sorted
theorem sn_sorted : SN g (fun xs H Q => rSortedS g.K xs H Q ∨ rSorted g.K xs H Q) dSorted := sn1 (fun H μ h x a Q W hr va bk => by
  cases va with
  | @ref p i hi =>
    simp only [dSorted] at bk
    split at bk
    · rename_i l q
      obtain ⟨xs, hs, vs⟩ := hr.list hi q
      split at bk
      · rename_i h64
        split at bk
        · rename_i ys e
          have ex := strs_of vs e
          subst ex
          refine .inl ⟨p, ys, rfl, hs, by rw [← allStr_len e]; exact h64, fun zs r h1 h2 h3 => ?_⟩
          rw [sortS_is h1 h2]
          exact bk.newL hr (vrs_strs _) h3
        · split at bk
          · rename_i ys e
            have ex := ints_of vs e
            subst ex
            refine .inr ⟨p, ys, rfl, hs, by rw [← allInt_len e]; exact h64, fun zs r h1 h2 h3 => ?_⟩
            rw [sortI_is h1 h2]
            exact bk.newL hr (vrs_ints _) h3
          · exact bk.elim
      · exact bk.elim
    · exact bk.elim
  | _ => exact bk.elim) (fun _ => rfl) (fun a b l h => by simp [dSorted])
end
end Mi

/-! A calculus for the mirror: what must hold ahead of a part so that a thing holds behind it. -/
namespace Mi
open PySem L2
abbrev XE := Str → List (Str × D) → MH → Prop
@[irreducible] def Sat {α : Type} (r : R α) (Q : α → MH → Prop) (E : XE) : Prop := match r with
  | .ok d h => Q d h
  | .exc x fs h => E x fs h
  | .bad => False
abbrev SP := Slots → MH → Prop
abbrev SX := Str → List (Str × D) → Slots → MH → Prop
@[irreducible] def OS (o : Out) (N : SP) (T : D → MH → Prop) (B C : SP) (E : SX) : Prop := match o with
  | .nx ρ h => N ρ h
  | .rt d h => T d h
  | .bk ρ h => B ρ h
  | .ct ρ h => C ρ h
  | .exc x fs ρ h => E x fs ρ h
  | .bad => False
abbrev noX : XE := fun _ _ _ => False
abbrev noS : SP := fun _ _ => False
section
variable {α : Type} {Q : α → MH → Prop} {E : XE}
theorem Sat_ok (d : α) (h : MH) : Sat (.ok d h) Q E = Q d h := by unfold Sat; rfl
theorem Sat_exc (x : Str) (fs : List (Str × D)) (h : MH) : Sat (.exc x fs h : R α) Q E = E x fs h := by unfold Sat; rfl
theorem Sat_bad : Sat (.bad : R α) Q E = False := by unfold Sat; rfl
variable {N : SP} {T : D → MH → Prop} {B C : SP} {Es : SX}
theorem OS_nx (ρ : Slots) (h : MH) : OS (.nx ρ h) N T B C Es = N ρ h := by unfold OS; rfl
theorem OS_rt (d : D) (h : MH) : OS (.rt d h) N T B C Es = T d h := by unfold OS; rfl
theorem OS_bk (ρ : Slots) (h : MH) : OS (.bk ρ h) N T B C Es = B ρ h := by unfold OS; rfl
theorem OS_ct (ρ : Slots) (h : MH) : OS (.ct ρ h) N T B C Es = C ρ h := by unfold OS; rfl
theorem OS_exc (x : Str) (fs : List (Str × D)) (ρ : Slots) (h : MH) : OS (.exc x fs ρ h) N T B C Es = Es x fs ρ h := by unfold OS; rfl
theorem OS_bad : OS .bad N T B C Es = False := by unfold OS; rfl
end
theorem Sat.monoE {α : Type} {r : R α} {Q Q' : α → MH → Prop} {E E' : XE} (s : Sat r Q E) (k : ∀ d h, Q d h → Q' d h) (k' : ∀ x fs h, E x fs h → E' x fs h) : Sat r Q' E' := by
  cases r with
  | ok d h => rw [Sat_ok] at s ⊢; exact k d h s
  | exc x fs h => rw [Sat_exc] at s ⊢; exact k' x fs h s
  | _ => rw [Sat_bad] at s; exact s.elim
theorem Sat.mono {α : Type} {r : R α} {Q Q' : α → MH → Prop} {E : XE} (s : Sat r Q noX) (k : ∀ d h, Q d h → Q' d h) : Sat r Q' E := s.monoE k fun _ _ _ z => z.elim
theorem Sat.get {α : Type} {r : R α} {Q : α → MH → Prop} (s : Sat r Q noX) : ∃ d h, r = .ok d h ∧ Q d h := by
  cases r with
  | ok d h => rw [Sat_ok] at s; exact ⟨d, h, rfl, s⟩
  | exc x fs h => rw [Sat_exc] at s; exact s.elim
  | _ => rw [Sat_bad] at s; exact s.elim
theorem Sat.bnd {α β : Type} {r : R α} {f : α → MH → R β} {Q : β → MH → Prop} {E : XE} (s : Sat r (fun x h => Sat (f x h) Q E) E) : Sat (r.bind f) Q E := by
  cases r with
  | ok d h => rw [Sat_ok] at s; exact s
  | exc x fs h => rw [Sat_exc] at s; show Sat (.exc x fs h) Q E; rw [Sat_exc]; exact s
  | _ => rw [Sat_bad] at s; exact s.elim
theorem Sat.ot {α : Type} {r : R α} {ρ : Slots} {f : α → MH → Out} {N : SP} {T : D → MH → Prop} {B C : SP} {E : SX} (s : Sat r (fun x h => OS (f x h) N T B C E) (fun x fs h => E x fs ρ h)) : OS (r.out ρ f) N T B C E := by
  cases r with
  | ok d h => rw [Sat_ok] at s; exact s
  | exc x fs h => rw [Sat_exc] at s; show OS (.exc x fs ρ h) N T B C E; rw [OS_exc]; exact s
  | _ => rw [Sat_bad] at s; exact s.elim
theorem OS.mono {o : Out} {N N' : SP} {T T' : D → MH → Prop} {B B' C C' : SP} {E E' : SX} (s : OS o N T B C E) (kn : ∀ ρ h, N ρ h → N' ρ h) (kt : ∀ d h, T d h → T' d h) (kb : ∀ ρ h, B ρ h → B' ρ h) (kc : ∀ ρ h, C ρ h → C' ρ h) (ke : ∀ x fs ρ h, E x fs ρ h → E' x fs ρ h) : OS o N' T' B' C' E' := by
  cases o with
  | nx ρ h => rw [OS_nx] at s ⊢; exact kn ρ h s
  | rt d h => rw [OS_rt] at s ⊢; exact kt d h s
  | bk ρ h => rw [OS_bk] at s ⊢; exact kb ρ h s
  | ct ρ h => rw [OS_ct] at s ⊢; exact kc ρ h s
  | exc x fs ρ h => rw [OS_exc] at s ⊢; exact ke x fs ρ h s
  | bad => rw [OS_bad] at s; exact s.elim
theorem w_ok {α : Type} {Q : α → MH → Prop} {E : XE} {h : MH} {d : α} (q : Q d h) : Sat (.ok d h) Q E := by rw [Sat_ok]; exact q
theorem w_eq {α : Type} {Q : α → MH → Prop} {E : XE} {x : R α} {d : α} {h' : MH} (e : x = .ok d h') (q : Q d h') : Sat x Q E := by rw [e]; exact w_ok q
theorem w_nx {N : SP} {T : D → MH → Prop} {B C : SP} {E : SX} {ρ : Slots} {h : MH} (q : N ρ h) : OS (.nx ρ h) N T B C E := by rw [OS_nx]; exact q
theorem w_rt {N : SP} {T : D → MH → Prop} {B C : SP} {E : SX} {d : D} {h : MH} (q : T d h) : OS (.rt d h) N T B C E := by rw [OS_rt]; exact q
theorem w_bk {N : SP} {T : D → MH → Prop} {B C : SP} {E : SX} {ρ : Slots} {h : MH} (q : B ρ h) : OS (.bk ρ h) N T B C E := by rw [OS_bk]; exact q
theorem w_ct {N : SP} {T : D → MH → Prop} {B C : SP} {E : SX} {ρ : Slots} {h : MH} (q : C ρ h) : OS (.ct ρ h) N T B C E := by rw [OS_ct]; exact q
def Br (p A B : Prop) : Prop := (p → A) ∧ (¬p → B)
theorem br_t {p A B : Prop} (hp : p) (a : A) : Br p A B := ⟨fun _ => a, fun n => absurd hp n⟩
theorem br_f {p A B : Prop} (hp : ¬p) (b : B) : Br p A B := ⟨fun n => absurd n hp, fun _ => b⟩
theorem br_d {p : Prop} [Decidable p] {A B : Prop} (a : p → A) (b : ¬p → B) : Br (decide p = true) A B := ⟨fun n => a (of_decide_eq_true n), fun n => b (of_decide_eq_false (by simpa using n))⟩
theorem br_n {b : Bool} {A B : Prop} (a : Br (b = true) B A) : Br ((!b) = true) A B := ⟨fun n => a.2 (by simp at n; simp [n]), fun n => a.1 (by simpa using n)⟩
theorem br_dt {p : Prop} [Decidable p] {A B : Prop} (hp : p) (a : A) : Br (decide p = true) A B := br_t (decide_eq_true hp) a
theorem br_df {p : Prop} [Decidable p] {A B : Prop} (hp : ¬p) (a : B) : Br (decide p = true) A B := br_f (by simp [hp]) a
theorem br_tt {A B : Prop} (a : A) : Br (true = true) A B := br_t rfl a
theorem br_ff {A B : Prop} (b : B) : Br (false = true) A B := br_f (by decide) b
section
variable {α : Type} {Q : D → MH → Prop} {QA : List D → MH → Prop} {QB : Bool → MH → Prop} {QP : Option Int → MH → Prop} {QI : List D × (MH → Bool) → MH → Prop} {E : XE} {ρ : Slots} {h : MH} {a b c e : ME} {r : MA} {ta tb : MT} {lo hi : MP}
theorem w_var {i : Nat} {d : D} (e : ρ[i]? = some (some d)) (q : Q d h) : Sat (mVar i ρ h) Q E := by
  unfold mVar
  rw [e]
  exact w_ok q
theorem w_c {d : D} (q : Q d h) : Sat (mC d ρ h) Q E := w_ok q
theorem w_bin {f : D → D → MH → R D} (q : Sat (a ρ h) (fun x h1 => Sat (b ρ h1) (fun y h2 => Sat (f x y h2) Q E) E) E) : Sat (mBin f a b ρ h) Q E := Sat.bnd (q.monoE (fun _ _ z => Sat.bnd z) fun _ _ _ z => z)
theorem w_un {f : D → MH → R D} (q : Sat (a ρ h) (fun x h1 => Sat (f x h1) Q E) E) : Sat (mUn f a ρ h) Q E := Sat.bnd q
theorem w_nil (q : QA [] h) : Sat (mNil ρ h) QA E := w_ok q
theorem w_cons (q : Sat (a ρ h) (fun x h1 => Sat (r ρ h1) (fun xs h2 => QA (x :: xs) h2) E) E) : Sat (mCons a r ρ h) QA E := Sat.bnd (q.monoE (fun _ _ z => Sat.bnd (z.monoE (fun _ _ z => w_ok z) fun _ _ _ z => z)) fun _ _ _ z => z)
def toTup (xs : List D) (h1 : MH) : R D := if xs.length ≤ 1000000 then .ok (.tup xs) h1 else .bad
def toLst (xs : List D) (h1 : MH) : R D := if xs.length ≤ 1000000 then .ok (.ref h1.length) (h1 ++ [.lst xs]) else .bad
theorem w_tup (q : Sat (r ρ h) (fun xs h1 => Sat (toTup xs h1) Q E) E) : Sat (mTup r ρ h) Q E := Sat.bnd q
theorem w_lst (q : Sat (r ρ h) (fun xs h1 => Sat (toLst xs h1) Q E) E) : Sat (mLst r ρ h) Q E := Sat.bnd q
theorem w_toTup {xs : List D} (l : xs.length ≤ 1000000) (q : Q (.tup xs) h) : Sat (toTup xs h) Q E := by unfold toTup; rw [if_pos l]; exact w_ok q
theorem w_toLst {xs : List D} (l : xs.length ≤ 1000000) (q : Q (.ref h.length) (h ++ [.lst xs])) : Sat (toLst xs h) Q E := by unfold toLst; rw [if_pos l]; exact w_ok q
theorem w_call {F : List D → MH → R D} (q : Sat (r ρ h) (fun xs h1 => Sat (F xs h1) Q E) E) : Sat (mCall F r ρ h) Q E := Sat.bnd q
def unB (x : D) (h1 : MH) : R Bool := match x with
  | .bl b => .ok b h1
  | _ => .bad
theorem w_B (q : Sat (a ρ h) (fun x h1 => Sat (unB x h1) QB E) E) : Sat (mB a ρ h) QB E := by
  refine Sat.bnd (q.monoE (fun x _ z => ?_) fun _ _ _ z => z)
  cases x <;> exact z
theorem w_unB {b : Bool} (q : QB b h) : Sat (unB (.bl b) h) QB E := w_ok q
theorem br_if {p : Prop} [Decidable p] {α : Type} {x y : R α} {Q : α → MH → Prop} (q : Br p (Sat x Q E) (Sat y Q E)) : Sat (if p then x else y) Q E := by
  split
  · rename_i hp; exact q.1 hp
  · rename_i hp; exact q.2 hp
theorem w_and (q : Sat (ta ρ h) (fun x h1 => Br (x = true) (Sat (tb ρ h1) QB E) (QB false h1)) E) : Sat (mAnd ta tb ρ h) QB E := Sat.bnd (q.monoE (fun _ _ z => br_if ⟨z.1, fun n => w_ok (z.2 n)⟩) fun _ _ _ z => z)
theorem w_or (q : Sat (ta ρ h) (fun x h1 => Br (x = true) (QB true h1) (Sat (tb ρ h1) QB E)) E) : Sat (mOr ta tb ρ h) QB E := Sat.bnd (q.monoE (fun _ _ z => br_if ⟨fun n => w_ok (z.1 n), z.2⟩) fun _ _ _ z => z)
theorem w_not (q : Sat (ta ρ h) (fun x h1 => QB (!x) h1) E) : Sat (mNot ta ρ h) QB E := Sat.bnd (q.monoE (fun _ _ z => w_ok z) fun _ _ _ z => z)
def andK (b : ME) (ρ : Slots) (x : D) (h1 : MH) : R D := match x with
  | .bl true => b ρ h1
  | .bl false => .ok (.bl false) h1
  | _ => .bad
def orK (b : ME) (ρ : Slots) (x : D) (h1 : MH) : R D := match x with
  | .bl false => b ρ h1
  | .bl true => .ok (.bl true) h1
  | _ => .bad
def notK (x : D) (h1 : MH) : R D := match x with
  | .bl b => .ok (.bl (!b)) h1
  | _ => .bad
theorem w_andV (q : Sat (a ρ h) (fun x h1 => Sat (andK b ρ x h1) Q E) E) : Sat (mAndV a b ρ h) Q E := Sat.bnd q
theorem w_orV (q : Sat (a ρ h) (fun x h1 => Sat (orK b ρ x h1) Q E) E) : Sat (mOrV a b ρ h) Q E := Sat.bnd q
theorem w_notV (q : Sat (a ρ h) (fun x h1 => Sat (notK x h1) Q E) E) : Sat (mNotV a ρ h) Q E := Sat.bnd q
theorem w_andK {k : Bool} (q : Br (k = true) (Sat (b ρ h) Q E) (Q (.bl false) h)) : Sat (andK b ρ (.bl k) h) Q E := by
  cases k
  · exact w_ok (q.2 (by decide))
  · exact q.1 rfl
theorem w_orK {k : Bool} (q : Br (k = true) (Q (.bl true) h) (Sat (b ρ h) Q E)) : Sat (orK b ρ (.bl k) h) Q E := by
  cases k
  · exact q.2 (by decide)
  · exact w_ok (q.1 rfl)
theorem w_notK {k : Bool} (q : Q (.bl (!k)) h) : Sat (notK (.bl k) h) Q E := w_ok q
theorem w_ifE (q : Sat (ta ρ h) (fun x h1 => Br (x = true) (Sat (a ρ h1) Q E) (Sat (b ρ h1) Q E)) E) : Sat (mIfE ta a b ρ h) Q E := Sat.bnd (q.monoE (fun _ _ z => br_if z) fun _ _ _ z => z)
theorem w_sl (q : Sat (a ρ h) (fun x h1 => Sat (lo ρ h1) (fun l h2 => Sat (hi ρ h2) (fun u h3 => Sat (dSl x l u h3) Q E) E) E) E) : Sat (mSl a lo hi ρ h) Q E :=
  Sat.bnd (q.monoE (fun _ _ z => Sat.bnd (z.monoE (fun _ _ z => Sat.bnd z) fun _ _ _ z => z)) fun _ _ _ z => z)
theorem w_no (q : QP none h) : Sat (mNo ρ h) QP E := w_ok q
def unI (x : D) (h1 : MH) : R (Option Int) := match x with
  | .int i => .ok (some i) h1
  | _ => .bad
theorem w_some (q : Sat (a ρ h) (fun x h1 => Sat (unI x h1) QP E) E) : Sat (mSome a ρ h) QP E := by
  refine Sat.bnd (q.monoE (fun x _ z => ?_) fun _ _ _ z => z)
  cases x <;> exact z
theorem w_unI {i : Int} (q : QP (some i) h) : Sat (unI (.int i) h) QP E := w_ok q
theorem w_meth {T : D → MH → Bool} {f : D → List D → MH → R D} (q : Sat (a ρ h) (fun x h1 => T x h1 = true ∧ Sat (r ρ h1) (fun xs h2 => Sat (f x xs h2) Q E) E) E) : Sat (mMeth T f a r ρ h) Q E :=
  Sat.bnd (q.monoE (fun _ _ z => by
    rw [if_pos z.1]
    exact Sat.bnd z.2) fun _ _ _ z => z)
theorem w_isi {T : String} (q : Sat (a ρ h) (fun x h1 => Sat (isi1 T (.ok x h1)) Q E) E) : Sat (mIsi T a ρ h) Q E := Sat.bnd q
def iterK (x : D) (h1 : MH) : R (List D × (MH → Bool)) := iter1 (.ok x h1)
theorem w_iter (q : Sat (a ρ h) (fun x h1 => Sat (iter1 (.ok x h1)) QI E) E) : Sat (mIter a ρ h) QI E := Sat.bnd q
theorem w_range1 (q : Sat (a ρ h) (fun x h1 => Sat (dR1 rangeD x h1) QI E) E) : Sat (mRange1 a ρ h) QI E := Sat.bnd q
theorem w_rev1 (q : Sat (a ρ h) (fun x h1 => Sat (dR1 revRangeD x h1) QI E) E) : Sat (mRev1 a ρ h) QI E := Sat.bnd q
theorem w_range2 (q : Sat (a ρ h) (fun x h1 => Sat (b ρ h1) (fun y h2 => Sat (dR2 rangeD x y h2) QI E) E) E) : Sat (mRange2 a b ρ h) QI E := Sat.bnd (q.monoE (fun _ _ z => Sat.bnd z) fun _ _ _ z => z)
theorem w_rev2 (q : Sat (a ρ h) (fun x h1 => Sat (b ρ h1) (fun y h2 => Sat (dR2 revRangeD x y h2) QI E) E) E) : Sat (mRev2 a b ρ h) QI E := Sat.bnd (q.monoE (fun _ _ z => Sat.bnd z) fun _ _ _ z => z)
theorem lim_in {j : Int} (h0 : -1000000000000000000 ≤ j) (h1 : j ≤ 1000000000000000000) : lim62 j = true := by unfold lim62; simp; omega
theorem w_dR1 {f : Int → Nat → List D} {j : Int} (l : -1000000000000000000 ≤ j ∧ j ≤ 1000000000000000000) (q : QI (f 0 j.toNat, yes) h) : Sat (dR1 f (.int j) h) QI E := by
  unfold dR1; simp only [lim_in l.1 l.2, if_true]; exact w_ok q
theorem w_dR2 {f : Int → Nat → List D} {i j : Int} (l : (-1000000000000000000 ≤ i ∧ i ≤ 1000000000000000000) ∧ -1000000000000000000 ≤ j ∧ j ≤ 1000000000000000000) (q : QI (f i (j - i).toNat, yes) h) : Sat (dR2 f (.int i) (.int j) h) QI E := by
  unfold dR2; simp only [lim_in l.1.1 l.1.2, lim_in l.2.1 l.2.2, true_and, if_true]; exact w_ok q
def zipK (x y : D) (h2 : MH) : R (List D × (MH → Bool)) := match x, y with
  | .ref i, .ref j => match getL h2 i, getL h2 j with
    | some l, some m => .ok (zipD l m, fun h' => decide (getL h' i = some l) && decide (getL h' j = some m)) h2
    | _, _ => .bad
  | _, _ => .bad
theorem w_zip (q : Sat (a ρ h) (fun x h1 => Sat (b ρ h1) (fun y h2 => Sat (zipK x y h2) QI E) E) E) : Sat (mZip a b ρ h) QI E := Sat.bnd (q.monoE (fun _ _ z => Sat.bnd z) fun _ _ _ z => z)
theorem w_lc {it : MI} {tg : MG} {vs : List Nat} (q : Sat (it ρ h) (fun a h1 => Sat (lcGo a.2 tg ta e h1.length (wipeD ρ vs) a.1 (h1 ++ [.lst []])) Q E) E) : Sat (mLc it tg ta e vs ρ h) Q E := Sat.bnd q
theorem w_revL (q : Sat (a ρ h) (fun x h1 => Sat (dRevL x h1) Q E) E) : Sat (mRevL a ρ h) Q E := Sat.bnd q
theorem w_dRevL {i : Nat} {l : List D} (hl : getL h i = some l) (q : Q (.ref h.length) (h ++ [.lst l.reverse])) : Sat (dRevL (.ref i) h) Q E := by
  simp only [dRevL, hl]; exact w_ok q
def lrK (x : D) (h : MH) : R D := match x with
  | .int j => lstRg 0 j h
  | _ => .bad
theorem w_listRg1 (q : Sat (a ρ h) (fun x h1 => Sat (lrK x h1) Q E) E) : Sat (mListRg1 a ρ h) Q E := Sat.bnd q
theorem w_tindex (q : Sat (a ρ h) (fun x h1 => ∃ l, x = .tup l ∧ Sat (b ρ h1) (fun y h2 => Sat (dTIdx x y h2) Q E) E) E) : Sat (mTIndex a b ρ h) Q E := Sat.bnd (q.monoE (fun _ _ z => by
  obtain ⟨l, rfl, z⟩ := z
  exact Sat.bnd z) fun _ _ _ z => z)
theorem w_dict0 (q : Q (.ref h.length) (h ++ [.dK []])) : Sat (mDict0 ρ h) Q E := w_ok q
def chK (f' : D → D → MH → R D) (c : ME) (ρ : Slots) (y z : D) (h3 : MH) : R D := match z with
  | .bl true => (c ρ h3).bind fun w h4 => f' y w h4
  | .bl false => .ok (.bl false) h3
  | _ => .bad
theorem w_chain {f f' : D → D → MH → R D} (q : Sat (a ρ h) (fun x h1 => Sat (b ρ h1) (fun y h2 => Sat (f x y h2) (fun z h3 => Sat (chK f' c ρ y z h3) Q E) E) E) E) : Sat (mChain f f' a b c ρ h) Q E :=
  Sat.bnd (q.monoE (fun _ _ z => Sat.bnd (z.monoE (fun _ _ z => Sat.bnd z) fun _ _ _ z => z)) fun _ _ _ z => z)
theorem w_chK {f' : D → D → MH → R D} {y : D} {k : Bool} (q : Br (k = true) (Sat (c ρ h) (fun w h4 => Sat (f' y w h4) Q E) E) (Q (.bl false) h)) : Sat (chK f' c ρ y (.bl k) h) Q E := by
  cases k
  · exact w_ok (q.2 (by decide))
  · exact Sat.bnd (q.1 rfl)
end
section
variable {N : SP} {T : D → MH → Prop} {B C : SP} {E : SX} {ρ : Slots} {h : MH} {a b c e : ME} {r : MA} {ta tb : MT} {sa sb : MS}
theorem w_seq (q : OS (sa ρ h) (fun ρ' h' => OS (sb ρ' h') N T B C E) T B C E) : OS (mSeq sa sb ρ h) N T B C E := by
  unfold mSeq
  cases e : sa ρ h with
  | nx ρ' h' => rw [e, OS_nx] at q; exact q
  | rt d h' => rw [e, OS_rt] at q; exact w_rt q
  | bk ρ' h' => rw [e, OS_bk] at q; exact w_bk q
  | ct ρ' h' => rw [e, OS_ct] at q; exact w_ct q
  | exc x fs ρ' h' => rw [e, OS_exc] at q; simp only [OS_exc]; exact q
  | bad => rw [e, OS_bad] at q; exact q.elim
theorem w_skip (q : N ρ h) : OS (mSkip ρ h) N T B C E := w_nx q
theorem w_brk (q : B ρ h) : OS (mBreak ρ h) N T B C E := w_bk q
theorem w_cont (q : C ρ h) : OS (mCont ρ h) N T B C E := w_ct q
theorem w_retN (q : T .non h) : OS (mRetN ρ h) N T B C E := w_rt q
theorem w_drop (q : Sat (e ρ h) (fun _ h' => N ρ h') fun x fs h => E x fs ρ h) : OS (mDrop e ρ h) N T B C E := Sat.ot (q.monoE (fun _ _ z => w_nx z) fun _ _ _ z => z)
theorem w_ret (q : Sat (e ρ h) T fun x fs h => E x fs ρ h) : OS (mRet e ρ h) N T B C E := Sat.ot (q.monoE (fun _ _ z => w_rt z) fun _ _ _ z => z)
theorem w_if (q : Sat (ta ρ h) (fun x h1 => Br (x = true) (OS (sa ρ h1) N T B C E) (OS (sb ρ h1) N T B C E)) fun x fs h => E x fs ρ h) : OS (mIf ta sa sb ρ h) N T B C E := Sat.ot (q.monoE (fun _ _ z => by
  split
  · rename_i hp; exact z.1 hp
  · rename_i hp; exact z.2 hp) fun _ _ _ z => z)
theorem w_asg {i : Nat} (q : Sat (e ρ h) (fun d h' => N (ρ.set i (some d)) h') fun x fs h => E x fs ρ h) : OS (mAsg i e ρ h) N T B C E := Sat.ot (q.monoE (fun _ _ z => w_nx z) fun _ _ _ z => z)
theorem w_asgT {m : MG} (q : Sat (e ρ h) (fun d h' => ∃ ρ', m d ρ = some ρ' ∧ N ρ' h') fun x fs h => E x fs ρ h) : OS (mAsgT m e ρ h) N T B C E := Sat.ot (q.monoE (fun _ _ z => by
  obtain ⟨ρ', e1, z⟩ := z
  rw [e1]
  exact w_nx z) fun _ _ _ z => z)
theorem w_setIx (q : Sat (e ρ h) (fun d h1 => Sat (a ρ h1) (fun x h2 => Sat (b ρ h2) (fun y h3 => Sat (dSet x y d h3) (fun _ h4 => N ρ h4) fun x fs h => E x fs ρ h) fun x fs h => E x fs ρ h) fun x fs h => E x fs ρ h) fun x fs h => E x fs ρ h) : OS (mSetIx a b e ρ h) N T B C E :=
  Sat.ot (q.monoE (fun _ _ z => Sat.ot (z.monoE (fun _ _ z => Sat.ot (z.monoE (fun _ _ z => Sat.ot (z.monoE (fun _ _ z => w_nx z) fun _ _ _ z => z)) fun _ _ _ z => z)) fun _ _ _ z => z)) fun _ _ _ z => z)
theorem w_for {it : MI} {tg : MG} (q : Sat (it ρ h) (fun x h1 => OS (forGo x.2 tg sa x.1 ρ h1) N T B C E) fun x fs h => E x fs ρ h) : OS (mFor it tg sa ρ h) N T B C E := Sat.ot q
theorem w_fun {n M : Nat} {ds : List D} {Q : D → MH → Prop} {E : XE} (q : OS (sa (startD n M ds) h) (fun _ h' => Q .non h') Q noS noS fun x fs _ h => E x fs h) (hl : ds.length = n := by rfl) : Sat (mFun n M sa ds h) Q E := by
  unfold mFun
  rw [if_pos hl]
  cases e : sa (startD n M ds) h with
  | nx ρ' h' => rw [e, OS_nx] at q; exact w_ok q
  | rt d h' => rw [e, OS_rt] at q; exact w_ok q
  | bk ρ' h' => rw [e, OS_bk] at q; exact q.elim
  | ct ρ' h' => rw [e, OS_ct] at q; exact q.elim
  | exc x fs ρ' h' => rw [e, OS_exc] at q; simp only [Sat_exc]; exact q
  | bad => rw [e, OS_bad] at q; exact q.elim
/-- a loop: what holds between two turns -/
theorem w_loop {gd : MH → Bool} {tg : MG} {body : MS} (I : Nat → SP) : ∀ {items : List D} {k : Nat} {ρ : Slots} {h : MH}, I k ρ h →
    (∀ i ρ h, I i ρ h → gd h = true) →
    (∀ i d ρ h, items[i]? = some d → I (k + i) ρ h → ∃ ρ1, tg d ρ = some ρ1 ∧ OS (body ρ1 h) (I (k + i + 1)) T N (I (k + i + 1)) E) →
    (∀ ρ h, I (k + items.length) ρ h → N ρ h) → OS (forGo gd tg body items ρ h) N T B C E
  | [], k, ρ, h, h0, hg, hs, hn => by
    rw [forGo, if_pos (hg k ρ h h0)]
    exact w_nx (hn _ _ h0)
  | d :: ds, k, ρ, h, h0, hg, hs, hn => by
    obtain ⟨ρ1, e1, q⟩ := hs 0 d ρ h rfl h0
    have go : ∀ ρ' h', I (k + 0 + 1) ρ' h' → OS (forGo gd tg body ds ρ' h') N T B C E := fun ρ' h' i => w_loop I (k := k + 1) (ρ := ρ') (h := h') i hg (fun i d' ρ h hd hi => by
      have e3 : k + (i + 1) = k + 1 + i := by omega
      have := hs (i + 1) d' ρ h (by simpa using hd) (by rw [e3]; exact hi)
      rw [e3] at this
      exact this) (fun ρ h hi => hn ρ h (by rw [List.length_cons]; have e3 : k + (ds.length + 1) = k + 1 + ds.length := by omega
                                            rw [e3]; exact hi))
    rw [forGo, if_pos (hg k ρ h h0), e1]
    cases e2 : body ρ1 h with
    | nx ρ' h' => rw [e2, OS_nx] at q; simp only [e2]; exact go ρ' h' q
    | ct ρ' h' => rw [e2, OS_ct] at q; simp only [e2]; exact go ρ' h' q
    | bk ρ' h' => rw [e2, OS_bk] at q; simp only [e2]; exact w_nx q
    | rt d h' => rw [e2, OS_rt] at q; simp only [e2]; exact w_rt q
    | exc x fs ρ' h' => rw [e2, OS_exc] at q; simp only [e2, OS_exc]; exact q
    | bad => rw [e2, OS_bad] at q; exact q.elim
theorem w_loop0 {gd : MH → Bool} {tg : MG} {body : MS} (I : Nat → SP) {items : List D} {ρ : Slots} {h : MH} (h0 : I 0 ρ h)
    (hg : ∀ i ρ h, I i ρ h → gd h = true)
    (hs : ∀ i d ρ h, items[i]? = some d → I i ρ h → ∃ ρ1, tg d ρ = some ρ1 ∧ OS (body ρ1 h) (I (i + 1)) T N (I (i + 1)) E)
    (hn : ∀ ρ h, I items.length ρ h → N ρ h) : OS (forGo gd tg body items ρ h) N T B C E :=
  w_loop I (k := 0) h0 hg (fun i d ρ h hd hi => by rw [Nat.zero_add] at hi ⊢; exact hs i d ρ h hd hi) (fun ρ h hi => hn ρ h (by rw [Nat.zero_add] at hi; exact hi))
/-- a comprehension: what holds between two turns, of the list so far -/
theorem w_comp {gd : MH → Bool} {tg : MG} {tt : MT} {te : ME} {c : Nat} {ρ : Slots} {Q : D → MH → Prop} {E : XE} (I : Nat → List D → MH → Prop) : ∀ {items : List D} {k : Nat} {acc : List D} {h : MH}, I k acc h → h[c]? = some (.lst acc) → acc.length + items.length ≤ 1000000 →
    (∀ i acc h, I i acc h → gd h = true) →
    (∀ i d acc h, items[i]? = some d → I (k + i) acc h → h[c]? = some (.lst acc) → ∃ ρ1, tg d ρ = some ρ1 ∧ ∃ b h1, tt ρ1 h = .ok b h1 ∧ (b = false → h1[c]? = some (.lst acc) ∧ I (k + i + 1) acc h1) ∧ (b = true → Sat (te ρ1 h1) (fun y h2 => h2[c]? = some (.lst acc) ∧ I (k + i + 1) (acc ++ [y]) (h2.set c (.lst (acc ++ [y])))) noX)) →
    (∀ acc h, I (k + items.length) acc h → h[c]? = some (.lst acc) → Q (.ref c) h) → Sat (lcGo gd tg tt te c ρ items h) Q E
  | [], k, acc, h, h0, hc, hl, hg, hs, hn => by
    rw [lcGo, if_pos (hg k acc h h0)]
    exact w_ok (hn _ _ h0 hc)
  | d :: ds, k, acc, h, h0, hc, hl, hg, hs, hn => by
    obtain ⟨ρ1, e1, b, h1, e2, q1, q2⟩ := hs 0 d acc h rfl h0 hc
    rw [List.length_cons] at hl
    have go : ∀ acc' h', acc'.length ≤ acc.length + 1 → I (k + 0 + 1) acc' h' → h'[c]? = some (.lst acc') → Sat (lcGo gd tg tt te c ρ ds h') Q E := fun acc' h' l i hc' => w_comp I (k := k + 1) (acc := acc') (h := h') i hc' (by omega) hg (fun i d' acc h hd hi hc => by
      have e3 : k + (i + 1) = k + 1 + i := by omega
      have := hs (i + 1) d' acc h (by simpa using hd) (by rw [e3]; exact hi) hc
      rw [e3] at this
      exact this) (fun acc h hi => hn acc h (by rw [List.length_cons]; have e3 : k + (ds.length + 1) = k + 1 + ds.length := by omega
                                                rw [e3]; exact hi))
    rw [lcGo, if_pos (hg k acc h h0), e1]
    cases b with
    | false =>
      simp only [e2]
      obtain ⟨q3, q4⟩ := q1 rfl
      exact go _ _ (by omega) q4 q3
    | true =>
      simp only [e2]
      obtain ⟨y, h2, e3, q3, q4⟩ := (q2 rfl).get
      simp only [e3, q3]
      rw [if_pos (by omega)]
      refine go _ _ (by simp) q4 ?_
      have : c < h2.length := (List.getElem?_eq_some_iff.mp q3).1
      simp [this]
/-- a comprehension whose parts change nothing -/
theorem w_compP {gd : MH → Bool} {tg : MG} {te : ME} {ρ : Slots} {Q : D → MH → Prop} {E : XE} {h0 : MH} (P : Nat → D → Prop) {items : List D} (hl : items.length ≤ 1000000)
    (hg : ∀ t, gd (h0 ++ t) = true)
    (hs : ∀ i d t, items[i]? = some d → ∃ ρ1, tg d ρ = some ρ1 ∧ Sat (te ρ1 (h0 ++ t)) (fun y h2 => h2 = h0 ++ t ∧ P i y) noX)
    (hn : ∀ ys : List D, ys.length = items.length → (∀ i y, ys[i]? = some y → P i y) → Q (.ref h0.length) (h0 ++ [.lst ys])) : Sat (lcGo gd tg mYes te h0.length ρ items (h0 ++ [.lst []])) Q E := by
  refine w_comp (fun k acc h => acc.length = k ∧ h = h0 ++ [.lst acc] ∧ ∀ i y, acc[i]? = some y → P i y) ⟨rfl, rfl, fun i y e => by simp at e⟩ (by simp) (by simpa using hl) (fun i acc h hi => by rw [hi.2.1]; exact hg _) ?_ ?_
  · rintro i d acc h hd ⟨ha, rfl, hp⟩ hc
    obtain ⟨ρ1, e1, s⟩ := hs i d [.lst acc] hd
    refine ⟨ρ1, e1, true, _, rfl, (fun z => Bool.noConfusion z), fun _ => s.mono ?_⟩
    rintro y h2 ⟨rfl, hy⟩
    refine ⟨hc, by simp [ha], by simp, fun j z hz => ?_⟩
    rcases Nat.lt_or_ge j acc.length with q | q
    · rw [List.getElem?_append_left q] at hz
      exact hp j z hz
    · rw [List.getElem?_append_right q] at hz
      have : j - acc.length = 0 := by
        have := (List.getElem?_eq_some_iff.mp hz).1
        simp at this; omega
      rw [this] at hz
      simp at hz
      subst hz
      have : j = i := by simp at ha; omega
      subst this
      exact hy
  · rintro acc h ⟨ha, rfl, hp⟩ hc
    exact hn acc (by simpa using ha) hp
end
/-! leaves -/
section
variable {Q : D → MH → Prop} {E : XE} {h : MH} {i j : Int} {x y : Str} {l m : List D}
theorem w_mod (c : 0 < j) (q : Q (.int (i % j)) h) : Sat (dMod (.int i) (.int j) h) Q E := w_eq (by rw [dMod_int, if_pos c]) q
theorem w_fdiv (c : 0 < j ∧ j < 18446744073709551616) (q : Q (.int (i / j)) h) : Sat (dFdiv (.int i) (.int j) h) Q E := w_eq (dFdiv_small i j h c.1 c.2) q
theorem w_mulS (c : (-18446744073709551616 < i ∧ i < 18446744073709551616) ∧ -18446744073709551616 < j ∧ j < 18446744073709551616) (q : Q (.int (i * j)) h) : Sat (dMul (.int i) (.int j) h) Q E := w_eq (dMul_s i j h c.1.1 c.1.2 c.2.1 c.2.2) q
theorem w_addS (c : x.length + y.length ≤ 1000000) (q : Q (.str (x ++ y)) h) : Sat (dAdd (.str x) (.str y) h) Q E := w_eq (by rw [dAdd_str, if_pos c]) q
theorem w_addT (c : l.length + m.length ≤ 1000000) (q : Q (.tup (l ++ m)) h) : Sat (dAdd (.tup l) (.tup m) h) Q E := w_eq (by rw [dAdd_tup, if_pos c]) q
theorem w_pow {n : Nat} (c : n ≤ 1000000 ∧ i.natAbs < 2 ^ 64) (q : Q (.int (i ^ n)) h) : Sat (dPow (.int i) (.int (n : Int)) h) Q E := w_eq (by rw [dPow_int, if_pos (by omega), Int.toNat_natCast]) q
theorem w_shl {n : Nat} (c : n ≤ 1000000 ∧ i.natAbs < 2 ^ 64) (q : Q (.int (i * 2 ^ n)) h) : Sat (dShl (.int i) (.int (n : Int)) h) Q E := w_eq (by rw [dShl_int, if_pos (by omega), Int.toNat_natCast]) q
theorem w_lenS (c : x.length ≤ 1000000) (q : Q (.int x.length) h) : Sat (dLen [.str x] h) Q E := w_eq (by rw [dLen_str, if_pos c]) q
theorem w_lenL {i : Nat} (c : getL h i = some l) (q : Q (.int l.length) h) : Sat (dLen [.ref i] h) Q E := w_eq (dLen_ref c) q
theorem w_slS {lo hi : Option Int} (c : x.length ≤ 1000000) (q : Q (.str (cutS x lo hi)) h) : Sat (dSl (.str x) lo hi h) Q E := w_eq (by rw [dSl_str, if_pos c]) q
theorem w_slL {i : Nat} {lo hi : Option Int} (c : getL h i = some l) (q : Q (.ref h.length) (h ++ [.lst (cutD l lo hi)])) : Sat (dSl (.ref i) lo hi h) Q E := w_eq (dSl_ref c lo hi) q
theorem w_ixL {k : Nat} {d : D} (c : getL h k = some l) (e : atI l i = some d) (q : Q d h) : Sat (dIx (.ref k) (.int i) h) Q E := w_eq (dIx_ref c e) q
theorem w_ixT {d : D} (e : atI l i = some d) (q : Q d h) : Sat (dIx (.tup l) (.int i) h) Q E := w_eq (dIx_tup h e) q
theorem w_ixS {c : Nat} (hz : x.length ≤ 1000000) (e : atI x.cps.toList i = some c) (q : Q (.str ⟨#[c]⟩) h) : Sat (dIx (.str x) (.int i) h) Q E := w_eq (dIx_str h hz e) q
theorem getL_of {i : Nat} (e : h[i]? = some (.lst l)) : getL h i = some l := by unfold getL; rw [e]
theorem w_app {i : Nat} {d : D} (e : h[i]? = some (.lst l)) (c : l.length < 1000000) (q : Q .non (h.set i (.lst (l ++ [d])))) : Sat (dAppend (.ref i) [d] h) Q E := w_eq (by simp only [dAppend, e, if_pos c]) q
theorem w_tupL {i : Nat} (c : getL h i = some l) (q : Q (.tup l) h) : Sat (dTuple [.ref i] h) Q E := w_eq (by simp [dTuple, seqOf, c]) q
theorem w_eqK {a b : D} {k : Bool} (e : eqD a b h = some k) (q : Q (.bl k) h) : Sat (dEq a b h) Q E := w_eq (dEq_of e) q
theorem w_set {QU : Unit → MH → Prop} {i : Nat} {k : Int} {n : Nat} {d : D} (e : h[i]? = some (.lst l)) (c : ixN l.length k = some n) (q : QU () (h.set i (.lst (l.set n d)))) : Sat (dSet (.ref i) (.int k) d h) QU E := w_eq (by simp only [dSet, e, c]) q
theorem allBl_map (bs : List Bool) : allBl (bs.map D.bl) = some bs := by
  induction bs with
  | nil => rfl
  | cons b bs ih => simp [allBl, ih]
theorem w_all {i : Nat} {bs : List Bool} (e : getL h i = some (bs.map .bl)) (q : Q (.bl (bs.all id)) h) : Sat (dAll [.ref i] h) Q E := w_eq (by simp [dAll, e, allBl_map]) q
theorem allStr_map (bs : List Str) : allStr (bs.map D.str) = some bs := by
  induction bs with
  | nil => rfl
  | cons b bs ih => simp [allStr, ih]
theorem w_join {i : Nat} {ys : List Str} (e : getL h i = some (ys.map .str)) (c : (ys.map (·.length)).sum + ys.length * x.length ≤ 1000000) (q : Q (.str (Txt.join x ys)) h) : Sat (dJoin (.str x) [.ref i] h) Q E := w_eq (by simp only [dJoin, seqOf, e, Option.bind_some, allStr_map, if_pos c]) q
theorem w_sortS {i : Nat} {ys : List Str} (e : getL h i = some (ys.map .str)) (c : ys.length < 64) (q : Q (.ref h.length) (h ++ [.lst ((sortS ys).map .str)])) : Sat (dSorted [.ref i] h) Q E := w_eq (by simp only [dSorted, e, List.length_map, if_pos c, allStr_map]) q
end
end Mi

/-! Lists of one's own: h goes on from h0, and the listed cells behind it are known. -/
namespace Mi
open PySem L2
abbrev LL := List (Nat × List D)
structure Own (h0 h : MH) (L : LL) : Prop where
  pre : h0 <+: h
  cell : ∀ p ∈ L, h0.length ≤ p.1 ∧ h[p.1]? = some (.lst p.2)
  nd : (L.map (·.1)).Nodup
section
variable {h0 h h' h1 : MH} {L M : LL} {i : Nat} {l l' : List D}
theorem Own.nil (h : MH) : Own h h [] := ⟨List.prefix_rfl, fun p hp => by simp at hp, List.nodup_nil⟩
theorem pre_get (p : h <+: h') {o : MO} (e : h[i]? = some o) : h'[i]? = some o := by
  obtain ⟨t, rfl⟩ := p
  rw [List.getElem?_append_left (List.getElem?_eq_some_iff.mp e).1]
  exact e
theorem pre_getL (p : h <+: h') (e : getL h i = some l) : getL h' i = some l := by
  obtain ⟨t, rfl⟩ := p
  have hi : i < h.length := by
    cases q : h[i]? with
    | none => simp [getL, q] at e
    | some o => exact (List.getElem?_eq_some_iff.mp q).1
  unfold getL
  rw [List.getElem?_append_left hi]
  exact e
theorem Own.getL (o : Own h0 h L) (e : getL h0 i = some l) : getL h i = some l := pre_getL o.pre e
theorem Own.ext (o : Own h0 h L) (p : h <+: h') : Own h0 h' L := ⟨o.pre.trans p, fun q hq => ⟨(o.cell q hq).1, pre_get p (o.cell q hq).2⟩, o.nd⟩
theorem Own.lt (o : Own h0 h L) {p : Nat × List D} (hp : p ∈ L) : p.1 < h.length := (List.getElem?_eq_some_iff.mp (o.cell p hp).2).1
theorem Own.add (o : Own h0 h L) (hi : h0.length ≤ i) (e : h[i]? = some (.lst l)) (n : ∀ p ∈ L, p.1 ≠ i) : Own h0 h ((i, l) :: L) :=
  ⟨o.pre, fun q hq => by
    rcases List.mem_cons.mp hq with rfl | hq
    · exact ⟨hi, e⟩
    · exact o.cell q hq, List.nodup_cons.mpr ⟨fun hm => by
      obtain ⟨p, hp, rfl⟩ := List.mem_map.mp hm
      exact n p hp rfl, o.nd⟩⟩
theorem Own.alloc (o : Own h0 h L) (xs : List D) : Own h0 (h ++ [.lst xs]) ((h.length, xs) :: L) :=
  (o.ext (List.prefix_append _ _)).add (o.pre.length_le) (by simp) fun p hp => Nat.ne_of_lt (o.lt hp)
theorem Own.at (o : Own h0 h L) (n : Nat) (e : L[n]? = some (i, l)) : h[i]? = some (.lst l) := (o.cell _ (List.mem_of_getElem? e)).2
theorem Own.atL (o : Own h0 h L) (n : Nat) (e : L[n]? = some (i, l)) : Mi.getL h i = some l := getL_of (o.at n e)
theorem Own.isL (o : Own h0 h L) (n : Nat) (e : L[n]? = some (i, l)) : isListD (.ref i) h = true := by rw [isListD_ref, o.atL n e]; rfl
theorem Own.setAt (o : Own h0 h L) (n : Nat) (e : L[n]? = some (i, l)) (l' : List D) : Own h0 (h.set i (.lst l')) (L.set n (i, l')) := by
  have hn : n < L.length := (List.getElem?_eq_some_iff.mp e).1
  have en : L[n] = (i, l) := (List.getElem?_eq_some_iff.mp e).2
  have hi : i < h.length := o.lt (List.mem_of_getElem? e)
  have h0i : h0.length ≤ i := (o.cell _ (List.mem_of_getElem? e)).1
  have em : (L.set n (i, l')).map (·.1) = L.map (·.1) := by
    rw [List.map_set]
    refine List.ext_getElem (by simp) fun k h1 h2 => ?_
    rw [List.getElem_set]
    split
    · rename_i q
      subst q
      rw [List.getElem_map, en]
    · rfl
  refine ⟨?_, fun q hq => ?_, by rw [em]; exact o.nd⟩
  · obtain ⟨t, rfl⟩ := o.pre
    rw [List.set_append_right _ _ h0i]
    exact List.prefix_append _ _
  · obtain ⟨k, hk, e2⟩ := List.mem_iff_getElem.mp hq
    rw [List.getElem_set] at e2
    split at e2
    · subst e2
      exact ⟨h0i, by simp [hi]⟩
    · rename_i hne
      have hk' : k < L.length := by simpa using hk
      have hm : q ∈ L := e2 ▸ List.getElem_mem hk'
      refine ⟨(o.cell q hm).1, ?_⟩
      rw [List.getElem?_set_ne]
      · exact (o.cell q hm).2
      · intro z
        have h1 : (L.map (·.1))[n]'(by simpa using hn) = (L.map (·.1))[k]'(by simpa using hk') := by
          rw [List.getElem_map, List.getElem_map, en, e2]
          exact z
        exact hne ((List.getElem_inj o.nd).mp h1)
theorem Own.trans (o : Own h0 h L) (o' : Own h h' M) : Own h0 h' (M ++ L) := by
  have o2 := o.ext o'.pre
  refine ⟨o2.pre, fun q hq => ?_, ?_⟩
  · rcases List.mem_append.mp hq with hq | hq
    · exact ⟨Nat.le_trans o.pre.length_le (o'.cell q hq).1, (o'.cell q hq).2⟩
    · exact o2.cell q hq
  · rw [List.map_append, List.nodup_append]
    refine ⟨o'.nd, o.nd, fun a ha b hb => ?_⟩
    obtain ⟨p, hp, rfl⟩ := List.mem_map.mp ha
    obtain ⟨q, hq, rfl⟩ := List.mem_map.mp hb
    have h1 := (o'.cell p hp).1
    have h2 := o.lt hq
    omega
theorem Own.sub (o : Own h0 h L) (s : M.Sublist L) : Own h0 h M := ⟨o.pre, fun p hp => o.cell p (s.subset hp), (s.map _).nodup o.nd⟩
theorem Own.tail {p : Nat × List D} (o : Own h0 h (p :: L)) : Own h0 h L := o.sub (List.sublist_cons_self _ _)
theorem Own.none (o : Own h0 h L) : Own h0 h [] := o.sub (List.nil_sublist _)
theorem Own.head {p : Nat × List D} (o : Own h0 h (p :: L)) : Own h0 h [p] := o.sub (List.Sublist.cons_cons _ (List.nil_sublist _))
theorem Own.ne (o : Own h0 h L) {a b : Nat} {p q : Nat × List D} (ha : L[a]? = some p) (hb : L[b]? = some q) (n : a ≠ b) : p.1 ≠ q.1 := by
  intro z
  have h1 := (List.getElem?_eq_some_iff.mp ha)
  have h2 := (List.getElem?_eq_some_iff.mp hb)
  refine n ((List.getElem_inj o.nd (i := a) (j := b) (h₀ := by simpa using h1.1) (h₁ := by simpa using h2.1)).mp ?_)
  rw [List.getElem_map, List.getElem_map, h1.2, h2.2]
  exact z
/-! rules -/
variable {Q : D → MH → Prop} {E : XE}
theorem o_new {xs : List D} (o : Own h0 h L) (l : xs.length ≤ 1000000) (q : ∀ i h', Own h0 h' ((i, xs) :: L) → Q (.ref i) h') : Sat (toLst xs h) Q E := w_toLst l (q _ _ (o.alloc xs))
theorem o_app {d : D} (o : Own h0 h L) (n : Nat) (e : L[n]? = some (i, l)) (c : l.length < 1000000) (q : ∀ h', Own h0 h' (L.set n (i, l ++ [d])) → Q .non h') : Sat (dAppend (.ref i) [d] h) Q E := w_app (o.at n e) c (q _ (o.setAt n e _))
theorem o_rev (o : Own h0 h L) (hl : Mi.getL h i = some l) (q : ∀ i h', Own h0 h' ((i, l.reverse) :: L) → Q (.ref i) h') : Sat (dRevL (.ref i) h) Q E := w_dRevL hl (q _ _ (o.alloc _))
theorem o_sl {lo hi : Option Int} (o : Own h0 h L) (hl : Mi.getL h i = some l) (q : ∀ i h', Own h0 h' ((i, cutD l lo hi) :: L) → Q (.ref i) h') : Sat (dSl (.ref i) lo hi h) Q E := w_slL hl (q _ _ (o.alloc _))
theorem o_sortS {ys : List Str} (o : Own h0 h L) (e : Mi.getL h i = some (ys.map .str)) (c : ys.length < 64) (q : ∀ i h', Own h0 h' ((i, (sortS ys).map .str) :: L) → Q (.ref i) h') : Sat (dSorted [.ref i] h) Q E := w_sortS e c (q _ _ (o.alloc _))
theorem o_set {QU : Unit → MH → Prop} {k : Int} {m : Nat} {d : D} (o : Own h0 h L) (n : Nat) (e : L[n]? = some (i, l)) (c : ixN l.length k = some m) (q : ∀ h', Own h0 h' (L.set n (i, l.set m d)) → QU () h') : Sat (dSet (.ref i) (.int k) d h) QU E := w_set (o.at n e) c (q _ (o.setAt n e _))
/-- a comprehension whose parts change nothing -/
theorem o_comp {gd : MH → Bool} {tg : MG} {te : ME} {ρ : Slots} (P : Nat → D → Prop) {items : List D} (o : Own h0 h L) (hl : items.length ≤ 1000000)
    (hg : ∀ h', h <+: h' → gd h' = true)
    (hs : ∀ i d h', items[i]? = some d → h <+: h' → ∃ ρ1, tg d ρ = some ρ1 ∧ Sat (te ρ1 h') (fun y h2 => h2 = h' ∧ P i y) noX)
    (hn : ∀ ys : List D, ys.length = items.length → (∀ i y, ys[i]? = some y → P i y) → ∀ i h', Own h0 h' ((i, ys) :: L) → Q (.ref i) h') : Sat (lcGo gd tg mYes te h.length ρ items (h ++ [.lst []])) Q E :=
  w_compP P hl (fun t => hg _ (List.prefix_append _ _)) (fun i d t hd => hs i d _ hd (List.prefix_append _ _)) fun ys hy hp => hn ys hy hp _ _ (o.alloc ys)
/-- a comprehension whose parts change lists of one's own -/
theorem o_compS {σ : Type} {gd : MH → Bool} {tg : MG} {te : ME} {ρ : Slots} (Lf : σ → LL) (I : Nat → List D → σ → Prop) {s0 : σ} {items : List D} (o : Own h0 h (Lf s0)) (i0 : I 0 [] s0) (hl : items.length ≤ 1000000)
    (hg : ∀ c acc s h', Own h0 h' ((c, acc) :: Lf s) → gd h' = true)
    (hs : ∀ i d acc s c h', items[i]? = some d → acc.length = i → I i acc s → Own h0 h' ((c, acc) :: Lf s) → ∃ ρ1, tg d ρ = some ρ1 ∧ Sat (te ρ1 h') (fun y h2 => ∃ s', Own h0 h2 ((c, acc) :: Lf s') ∧ I (i + 1) (acc ++ [y]) s') noX)
    (hn : ∀ acc s c h', acc.length = items.length → I items.length acc s → Own h0 h' ((c, acc) :: Lf s) → Q (.ref c) h') : Sat (lcGo gd tg mYes te h.length ρ items (h ++ [.lst []])) Q E := by
  refine w_comp (fun k acc h' => acc.length = k ∧ ∃ s, I k acc s ∧ Own h0 h' ((h.length, acc) :: Lf s)) (k := 0) ⟨rfl, s0, i0, o.alloc []⟩ (by simp) (by simpa using hl) (fun i acc h' hi => by
    obtain ⟨_, s, _, hi⟩ := hi
    exact hg _ _ _ _ hi) ?_ ?_
  · rintro i d acc h' hd ⟨ha, s, hi, ho⟩ hc
    rw [Nat.zero_add] at ha hi ⊢
    obtain ⟨ρ1, e1, q⟩ := hs i d acc s _ h' hd ha hi ho
    refine ⟨ρ1, e1, true, _, rfl, (fun z => Bool.noConfusion z), fun _ => q.mono ?_⟩
    rintro y h2 ⟨s', o2, i2⟩
    exact ⟨o2.at 0 rfl, by simp [ha], s', i2, o2.setAt 0 rfl _⟩
  · rintro acc h' ⟨ha, s, hi, ho⟩ hc
    rw [Nat.zero_add] at ha hi
    exact hn acc s _ h' ha hi ho
end
end Mi

/-! Exceptions: raised with a field or none, caught, kept in a name, asked for their class and field. -/
namespace Mi
open PySem L2 PySem.Spec PyProof.Rows
section
variable {X : Cx} {pins : List (Addr × Obj)} {σ : L2.St} {H : Hp} {s : Shared}
end
/-- what a clause wishes that keeps the exception: slot i is the clause's name, slot j the one that keeps it -/
def wKeep (K : PySem.W.Frag) (c : Value) (i j : Nat) (Wo : WX) (D : Ends) : WX := fun cls d σ H =>
  ∃ b C, cls = .ref C ∧ PySem.W.exmOne K cls c = some b ∧ (b = true → ∀ p, H p = none → D.nx (((σ.set i (some (.ref p))).set j (some (.ref p))).set i none) (upd H p (XOk C d p))) ∧ (b = false → Wo cls d σ H)
section
variable {X : Cx} {x n r : Str} {c : Value} {i j : Nat} {body : List Stmt} {qn q0 q1 q2 q3 q4 : Pos} {tb : WX → TS} {Wo : WX}
end

/-! ### what a class of exceptions must say -/
structure ClsX (K : PySem.W.Frag) (C : Addr) : Prop where
  cl : (PySem.W.clsIn K C).isSome = true
  ga : PySem.W.findIn K (.ref C) "__getattribute__" = some (some (.builtin "BaseException.__getattribute__"))
  gg : PySem.W.findIn K (.ref C) "__getattr__" = some none
  sb : PySem.W.subIn K (.ref C) (.type "BaseException") = some true
  ca : PySem.W.findIn K (.ref C) "__class__" = some (some (.builtin "object.__class__"))
  cg : PySem.W.specialIn K (.builtin "object.__class__") "__get__" = some (some (.builtin "getset_descriptor.__get__"))
  ct : PySem.W.takesIn K (.builtin "object.__class__") = some true
  mo : PySem.W.mroIn K C (.type "object") = some true
  hd : PySem.W.hasDictIn K C = true
  ty : PySem.W.typeIn K (.ref C) = some (.type "type")
  kp : PySem.W.keepIn K (.ref C) = true
def clsXB (K : PySem.W.Frag) (C : Addr) : Bool :=
  (PySem.W.clsIn K C).isSome && (decide (PySem.W.findIn K (.ref C) "__getattribute__" = some (some (.builtin "BaseException.__getattribute__"))) && (decide (PySem.W.findIn K (.ref C) "__getattr__" = some none) &&
  (decide (PySem.W.subIn K (.ref C) (.type "BaseException") = some true) && (decide (PySem.W.findIn K (.ref C) "__class__" = some (some (.builtin "object.__class__"))) &&
  (decide (PySem.W.specialIn K (.builtin "object.__class__") "__get__" = some (some (.builtin "getset_descriptor.__get__"))) && (decide (PySem.W.takesIn K (.builtin "object.__class__") = some true) &&
  (decide (PySem.W.mroIn K C (.type "object") = some true) && (PySem.W.hasDictIn K C && (decide (PySem.W.typeIn K (.ref C) = some (.type "type")) && PySem.W.keepIn K (.ref C))))))))))
/-- the classes in a table, each with a truth -/
def TabX (K : PySem.W.Frag) (l : List (Str × Bool)) (f : Addr → Bool → Prop) : Prop := ∀ c b C, l.lookup c = some b → cmOf K c = some C → ClsX K C ∧ f C b
def tabXB (K : PySem.W.Frag) (l : List (Str × Bool)) (f : Addr → Bool → Bool) : Bool := l.all fun p => match cmOf K p.1 with
  | some C => clsXB K C && f C p.2
  | none => false
/-! ### caught and kept -/
def xoOf (c : Str) : List (Str × D) → Option D
  | [] => some (.xo c (Str.ofString "") .non)
  | [(f, v)] => some (.xo c f v)
  | _ => none
def mTryK (tab : List (Str × Bool)) (i j : Nat) (b : MS) : MS := fun ρ h => match b ρ h with
  | .exc c fs ρ1 h1 => match tab.lookup c with
    | some true => match xoOf c fs with
      | some d => .nx (((ρ1.set i none).set j (some d)).set i none) h1
      | none => .bad
    | some false => .exc c fs ρ1 h1
    | none => .bad
  | o => o
section
variable {K : PySem.W.Frag} {H : Hp} {μ : List Addr} {h : MH}
end

section
variable {X : Cx} {x n r : Str} {c : Value} {i j : Nat} {body : List Stmt} {qn q0 q1 q2 q3 q4 : Pos} {mb : MS} {W : WX} {tab : List (Str × Bool)}
end

/-! ### the field of a kept exception -/
def tXk (K : PySem.W.Frag) (f : Str) (te : TE) : TE := fun σ H Q => te σ H fun x H1 => ∃ (p C dd : Addr) (fv : List (Str × V)) (v : V), x = .ref p ∧ H1 p = some (XOk C (some dd) p) ∧ H1 dd = some (.xd fv) ∧ fv.lookup f = some v ∧ ClsX K C ∧ PySem.W.findIn K (.ref C) f = some none ∧ Q v H1
def mXf (cs : List Str) (f : Str) (a : ME) : ME := fun ρ h => (a ρ h).bind fun x h1 => match x with
  | .xo c f' v => if c ∈ cs ∧ f' = f ∧ f ≠ Str.ofString "" then .ok v h1 else .bad
  | _ => .bad
/-! ### isinstance of a kept exception -/
def XAt (H : Hp) (p C : Addr) : Prop := ∃ d, H p = some (XOk C d p) ∧ (d = none ∨ ∃ dd fv, d = some dd ∧ H dd = some (.xd fv))
def Det (c : V) (u : Value) : Prop := ∀ w, RelV c w → w = u
def rIsXk (K : PySem.W.Frag) : List V → Hp → VK → Prop := fun xs H Q => ∃ (p C : Addr) (c : V) (cv : Value) (b : Bool), xs = [.ref p, c] ∧ XAt H p C ∧ Det c cv ∧ ClsX K C ∧ PySem.W.kitOne K (.ref C) cv = some b ∧ Q (.bl b) H
def rIsXt (K : PySem.W.Frag) : List V → Hp → VK → Prop := fun xs H Q => ∃ (p C tp : Addr) (o : Obj) (cs : List V) (cv : List Value) (b : Bool), xs = [.ref p, .ref tp] ∧ XAt H p C ∧ H tp = some (.frz o (.tup cs)) ∧ Paired Det cs cv ∧ ClsX K C ∧ PySem.W.kitAny K (.ref C) cv = some b ∧ Q (.bl b) H
def mIsX (tab : List (Str × Bool)) (a : ME) : ME := fun ρ h => (a ρ h).bind fun x h1 => match x with
  | .xo c _ _ => match tab.lookup c with
    | some b => .ok (.bl b) h1
    | none => .bad
  | _ => .bad
section
variable {X : Cx} {W : WX} {a : Expr} {ma : ME} {p p2 p3 pos : Pos} {y : Str} {tab : List (Str × Bool)}
/-- names of classes -/
inductive NmX (X : Cx) : List Expr → List V → List Value → Prop
  | nil : NmX X [] [] []
  | cons {y : Str} {p : Pos} {D : Addr} {es : List Expr} {vs : List V} {us : List Value} : PE X (.Name y p) (tC (.ref D)) → starEach (.Name y p :: es) X.env = (false, eval (.Name y p) X.env) :: starEach es X.env → NmX X es vs us → NmX X (.Name y p :: es) (.ref D :: vs) (.ref D :: us)
theorem NmX.pa : ∀ {es : List Expr} {vs : List V} {us : List Value}, NmX X es vs us → PA X es (fun σ H Q => Q vs H) ∧ Paired Det vs us ∧ vs.length = es.length
  | _, _, _, .nil => ⟨pa_mono pa_nil fun _ _ _ q => q, .nil, rfl⟩
  | _, _, _, .cons a b c => by
    obtain ⟨h1, h2, h3⟩ := c.pa
    exact ⟨pa_mono (pa_cons a h1 b) fun _ _ _ q => q, .cons (fun w r => r) h2, by simp [h3]⟩
end
end Mi

/-! Raising: a class with one field, a class without. -/
namespace Mi
open PySem L2 PySem.Spec PyProof.Rows
def spInit (K : PySem.W.Frag) (f : Str) : Sp := fun vs H Q _ => ∃ (p C : Addr) (y : V), vs = [.ref p, y] ∧ OexC K C ∧ PySem.W.findIn K (.ref C) f = some none ∧ H p = some (exo p C none) ∧
  ∀ dx, H dx = none → dx ≠ p → Q .non (upd (upd H dx (exd dx [(f, y)])) p (exo p C (some dx)))
section
variable {P : Program} {w : World} {K : PySem.W.Frag} {mg : Str → Option Value} {base : Heap}
/-- a class with one field -/
def XI (P : Program) (w : World) (K : PySem.W.Frag) (mg : Str → Option Value) (base : Heap) (c f : Str) : Prop := ∃ (C fI : Addr) (fd : FuncData), cmOf K c = some C ∧ mg c = some (.ref C) ∧ OexC K C ∧
  PySem.W.findIn K (.ref C) "__init__" = some (some (.ref fI)) ∧ PySem.W.typeIn K (.ref fI) = some (.type "function") ∧ PySem.W.findIn K (.ref C) f = some none ∧ FnOk P w K mg base (L2.CX P w) 1 fI fd ["self", f] (spInit K f) ∧ Binds K fd ["self", f] []
/-- a class without -/
def X0 (K : PySem.W.Frag) (mg : Str → Option Value) (c : Str) : Prop := ∃ C : Addr, cmOf K c = some C ∧ mg c = some (.ref C) ∧ PySem.W.excIn K C [.type "ValueError", .type "Exception", .type "BaseException", .type "object"] "ValueError.__new__" = true ∧
  PySem.W.keepIn K (.ref C) = true ∧ PySem.W.subIn K (.ref C) (.type "BaseException") = some true ∧ PySem.W.typeIn K (.ref C) = some (.type "type")
end
def mRaise (c f : Str) (a : ME) : MS := fun ρ h => (a ρ h).out ρ fun d h1 => .exc c [(f, d)] ρ h1
def mRaise0 (c : Str) : MS := fun ρ h => .exc c [] ρ h
section
variable {X : Cx} {W : WX} {e : Expr} {me : ME} {c f m : Str} {p p2 pos pos2 : Pos} {j : Nat}
end
/-! ### tables by truths -/
section
variable {K : PySem.W.Frag} {h : Heap} {mg : Str → Option Value}
/-- the class y, as isinstance and except ask for it -/
def IsT (K : PySem.W.Frag) (mg : Str → Option Value) (y : Str) (l : List (Str × Bool)) : Prop := ∃ D, mg y = some (.ref D) ∧ TabX K l fun C b => PySem.W.kitOne K (.ref C) (.ref D) = some b
def ExT (K : PySem.W.Frag) (mg : Str → Option Value) (y : Str) (l : List (Str × Bool)) : Prop := ∃ D, mg y = some (.ref D) ∧ TabX K l fun C b => PySem.W.exmOne K (.ref C) (.ref D) = some b
def isTB (K : PySem.W.Frag) (y : Str) (l : List (Str × Bool)) : Bool := match cmOf K y with
  | some D => tabXB K l fun C b => PySem.W.kitOne K (.ref C) (.ref D) == some b
  | none => false
def exTB (K : PySem.W.Frag) (y : Str) (l : List (Str × Bool)) : Bool := match cmOf K y with
  | some D => tabXB K l fun C b => PySem.W.exmOne K (.ref C) (.ref D) == some b
  | none => false
/-- a built-in class -/
def IsB (K : PySem.W.Frag) (y : String) (l : List (Str × Bool)) : Prop := TabX K l fun C b => PySem.W.kitOne K (.ref C) (.type y) = some b
def isBB (K : PySem.W.Frag) (y : String) (l : List (Str × Bool)) : Bool := tabXB K l fun C b => PySem.W.kitOne K (.ref C) (.type y) == some b
/-- several classes -/
def refsOf (K : PySem.W.Frag) : List Str → Option (List Addr)
  | [] => some []
  | y :: r => match cmOf K y, refsOf K r with
    | some D, some l => some (D :: l)
    | _, _ => none
def IsTs (K : PySem.W.Frag) (mg : Str → Option Value) (ys : List Str) (l : List (Str × Bool)) : Prop := ∃ Ds : List Addr, Paired (fun y D => mg y = some (.ref D)) ys Ds ∧ TabX K l fun C b => PySem.W.kitAny K (.ref C) (Ds.map .ref) = some b
def isTsB (K : PySem.W.Frag) (ys : List Str) (l : List (Str × Bool)) : Bool := match refsOf K ys with
  | some Ds => tabXB K l fun C b => PySem.W.kitAny K (.ref C) (Ds.map .ref) == some b
  | none => false
/-- a field -/
def FlT (K : PySem.W.Frag) (f : Str) (cs : List Str) : Prop := ∀ c ∈ cs, ∀ C, cmOf K c = some C → ClsX K C ∧ PySem.W.findIn K (.ref C) f = some none
def flTB (K : PySem.W.Frag) (f : Str) (cs : List Str) : Bool := cs.all fun c => match cmOf K c with
  | some C => clsXB K C && decide (PySem.W.findIn K (.ref C) f = some none)
  | none => false
/-- a class without fields, to be raised -/
def x0B (K : PySem.W.Frag) (c : Str) : Bool := match cmOf K c with
  | some C => PySem.W.excIn K C [.type "ValueError", .type "Exception", .type "BaseException", .type "object"] "ValueError.__new__" && (PySem.W.keepIn K (.ref C) && (decide (PySem.W.subIn K (.ref C) (.type "BaseException") = some true) && decide (PySem.W.typeIn K (.ref C) = some (.type "type"))))
  | none => false
end

/-- a class over ValueError whose instances get fields -/
def oexB (K : PySem.W.Frag) (C : Addr) : Bool := (match K.lookup C with
  | some ⟨.type "type", _, .cls cd, sl⟩ => (match cd.mro, sl.toList with
    | .ref D :: bm, [_, _, _, _, some (.builtin n), _] => (D == C && (n == "ValueError.__new__" && (!cd.hasDel && (cd.hasDict && PySem.HandSPX.refsVE bm))))
    | _, _ => false)
  | _ => false) && (decide (PySem.W.findIn K (.ref C) "__setattr__" = some (some (.builtin "object.__setattr__"))) && (decide (PySem.W.subIn K (.ref C) (.type "BaseException") = some true) && (decide (PySem.W.typeIn K (.ref C) = some (.type "type")) && PySem.W.keepIn K (.ref C))))
def inner (s : Stmt) (j : Nat) : Stmt := match s with
  | .ClassDef (body := b) .. => b.getD j (.Pass ⟨0, 0, 0, 0⟩)
  | _ => .Pass ⟨0, 0, 0, 0⟩
/-! ### as the generator writes them -/
section
variable {X : Cx} {W : WX} {a : Expr} {ma : ME} {x y n r : Str} {i j : Nat} {body : List Stmt} {mb : MS} {tab : List (Str × Bool)} {p p2 pos qn q0 q1 q2 q3 q4 : Pos}
inductive NmE (X : Cx) : List Expr → List Str → Prop
  | nil : NmE X [] []
  | cons {y : Str} {p : Pos} {es : List Expr} {ys : List Str} : Gl X y → (y == ("__debug__" : Str)) = false → starEach (.Name y p :: es) X.env = (false, eval (.Name y p) X.env) :: starEach es X.env → NmE X es ys → NmE X (.Name y p :: es) (y :: ys)
theorem NmE.of : ∀ {es : List Expr} {ys : List Str} {Ds : List Addr}, NmE X es ys → Paired (fun y D => X.mg y = some (.ref D)) ys Ds → NmX X es (Ds.map .ref) (Ds.map .ref)
  | _, _, _, .nil, .nil => .nil
  | _, _, _, .cons a b c d, .cons e f => .cons (pe_glob a e rfl b) c (NmE.of d f)
end
end Mi

/-! The calculus for exceptions. -/
namespace Mi
open PySem L2
def isXK (tab : List (Str × Bool)) (x : D) (h : MH) : R D := match x with
  | .xo c _ _ => match tab.lookup c with
    | some b => .ok (.bl b) h
    | none => .bad
  | _ => .bad
def xfK (cs : List Str) (f : Str) (x : D) (h : MH) : R D := match x with
  | .xo c f' v => if c ∈ cs ∧ f' = f ∧ f ≠ Str.ofString "" then .ok v h else .bad
  | _ => .bad
def tryE (tab : List (Str × Bool)) (i j : Nat) (N : SP) (E : SX) : SX := fun c fs ρ h => match tab.lookup c with
  | some true => ∃ d, xoOf c fs = some d ∧ N (((ρ.set i none).set j (some d)).set i none) h
  | some false => E c fs ρ h
  | none => False
section
variable {N : SP} {T : D → MH → Prop} {B C : SP} {E : SX} {ρ : Slots} {h : MH} {a : ME} {b : MS} {c f : Str}
theorem w_raise (q : Sat (a ρ h) (fun d h1 => E c [(f, d)] ρ h1) fun x fs h => E x fs ρ h) : OS (mRaise c f a ρ h) N T B C E := Sat.ot (q.monoE (fun _ _ z => by rw [OS_exc]; exact z) fun _ _ _ z => z)
theorem w_raise0 (q : E c [] ρ h) : OS (mRaise0 c ρ h) N T B C E := by unfold mRaise0; rw [OS_exc]; exact q
theorem w_tryK {tab : List (Str × Bool)} {i j : Nat} (q : OS (b ρ h) N T B C (tryE tab i j N E)) : OS (mTryK tab i j b ρ h) N T B C E := by
  unfold mTryK
  cases e : b ρ h with
  | exc c fs ρ1 h1 =>
    rw [e, OS_exc] at q
    unfold tryE at q
    dsimp only
    split at q
    · rename_i l
      obtain ⟨d, e1, q⟩ := q
      (try rw [l])
      (try dsimp only)
      (try rw [e1])
      exact w_nx q
    · rename_i l
      (try rw [l])
      (try dsimp only)
      rw [OS_exc]
      exact q
    · exact q.elim
  | nx _ _ => rw [e, OS_nx] at q; exact w_nx q
  | rt _ _ => rw [e, OS_rt] at q; exact w_rt q
  | bk _ _ => rw [e, OS_bk] at q; exact w_bk q
  | ct _ _ => rw [e, OS_ct] at q; exact w_ct q
  | bad => rw [e, OS_bad] at q; exact q.elim
variable {Q : D → MH → Prop} {X : XE}
theorem w_isX {tab : List (Str × Bool)} (q : Sat (a ρ h) (fun x h1 => Sat (isXK tab x h1) Q X) X) : Sat (mIsX tab a ρ h) Q X := Sat.bnd q
theorem w_isXK {tab : List (Str × Bool)} {v : D} {k : Bool} (l : tab.lookup c = some k) (q : Q (.bl k) h) : Sat (isXK tab (.xo c f v) h) Q X := w_eq (by simp only [isXK, l]) q
theorem w_xf {cs : List Str} (q : Sat (a ρ h) (fun x h1 => Sat (xfK cs f x h1) Q X) X) : Sat (mXf cs f a ρ h) Q X := Sat.bnd q
theorem w_xfK {cs : List Str} {v : D} (l : c ∈ cs) (n : f ≠ Str.ofString "") (q : Q v h) : Sat (xfK cs f (.xo c f v) h) Q X := w_eq (by unfold xfK; exact if_pos ⟨l, rfl, n⟩) q
theorem isN_xo {c f : Str} {v : D} (h : MH) : dIsN (.xo c f v) .non h = .ok (.bl false) h := by unfold dIsN; simp
end
theorem w_lenLm {α : Type} {f : α → D} {l : List α} {Q : D → MH → Prop} {E : XE} {h : MH} {i : Nat} (c : getL h i = some (l.map f)) (q : Q (.int l.length) h) : Sat (dLen [.ref i] h) Q E := w_lenL c (by rw [List.length_map]; exact q)
theorem w_lenTm {α : Type} {f : α → D} {l : List α} {Q : D → MH → Prop} {E : XE} {h : MH} (q : Q (.int l.length) h) : Sat (dLen [.tup (l.map f)] h) Q E := w_eq (dLen_tup _ _) (by rw [List.length_map]; exact q)
theorem dNe_strs (x y : Str) (h : MH) : dNe (.str x) (.str y) h = .ok (.bl (!decide (x = y))) h := dNe_of (by unfold eqD; simp [scalD])
theorem dEq_bls (x y : Bool) (h : MH) : dEq (.bl x) (.bl y) h = .ok (.bl (decide (x = y))) h := dEq_of (by unfold eqD; simp [scalD])
theorem dNe_bls (x y : Bool) (h : MH) : dNe (.bl x) (.bl y) h = .ok (.bl (!decide (x = y))) h := dNe_of (by unfold eqD; simp [scalD])
theorem w_iterL {QI : List D × (MH → Bool) → MH → Prop} {E : XE} {h : MH} {i : Nat} {l : List D} (e : getL h i = some l) (q : QI (l, fun h' => decide (getL h' i = some l)) h) : Sat (iter1 (.ok (.ref i) h)) QI E := w_eq (iter1_ref _ _ _ e) q
end Mi

/-! except without a name; walks from the end. -/
namespace Mi
open PySem L2
def mTryO (tab : List (Str × Bool)) (b s : MS) : MS := fun ρ h => match b ρ h with
  | .exc c fs ρ1 h1 => match tab.lookup c with
    | some true => s ρ1 h1
    | some false => .exc c fs ρ1 h1
    | none => .bad
  | o => o
section
variable {X : Cx} {x : Str} {body suite : List Stmt} {b0 : Stmt} {qn q0 q4 : Pos} {mb ms : MS} {W : WX} {tab : List (Str × Bool)}
end
def tryO (tab : List (Str × Bool)) (s : MS) (N : SP) (T : D → MH → Prop) (B C : SP) (E : SX) : SX := fun c fs ρ h => match tab.lookup c with
  | some true => OS (s ρ h) N T B C E
  | some false => E c fs ρ h
  | none => False
theorem lkA {x : Str} {k : Bool} {l : List (Str × Bool)} : List.lookup x ((x, k) :: l) = some k := by simp [List.lookup]
theorem lkB {x y : Str} {b : Bool} {l : List (Str × Bool)} {r : Option Bool} (h : (x == y) = false) (q : List.lookup x l = r) : List.lookup x ((y, b) :: l) = r := by rw [List.lookup_cons, h]; exact q
end Mi

/-! Lists walked from the end; while by a measure. -/
namespace Mi
open PySem L2
def revK (x : D) (h1 : MH) : R (List D × (MH → Bool)) := match x with
  | .ref i => match getL h1 i with
    | some l => .ok (l.reverse, fun h' => decide (getL h' i = some l)) h1
    | none => .bad
  | _ => .bad
def mRevI (a : ME) : MI := fun ρ h => (a ρ h).bind fun x h1 => revK x h1
section
variable {X : Cx} {g : G} {W : WX} {e tg : Expr} {ma : ME} {p pos : Pos}
end
section
variable {N : SP} {T : D → MH → Prop} {B C : SP} {E : SX} {QI : List D × (MH → Bool) → MH → Prop} {X : XE}
theorem w_whGo {c : MT} {body : MS} (I : Nat → SP)
    (hs : ∀ m ρ h, I m ρ h → Sat (c ρ h) (fun b h1 => (b = true → OS (body ρ h1) (fun ρ' h' => ∃ m', m' < m ∧ I m' ρ' h') T N (fun ρ' h' => ∃ m', m' < m ∧ I m' ρ' h') E) ∧ (b = false → N ρ h1)) fun x fs h => E x fs ρ h) :
    ∀ (n m : Nat) (ρ : Slots) (h : MH), m < n → I m ρ h → OS (whGo c body n ρ h) N T B C E := by
  intro n
  induction n with
  | zero => intro m ρ h hm; omega
  | succ n ih =>
    intro m ρ h hm hi
    rw [whGo]
    refine Sat.ot ((hs m ρ h hi).monoE (fun b h1 q => ?_) fun _ _ _ z => z)
    cases b with
    | false =>
      rw [if_neg (by decide)]
      exact w_nx (q.2 rfl)
    | true =>
      rw [if_pos rfl]
      have q1 := q.1 rfl
      cases e : body ρ h1 with
      | nx ρ' h' =>
        rw [e, OS_nx] at q1
        obtain ⟨m', h1, h2⟩ := q1
        exact ih m' ρ' h' (by omega) h2
      | ct ρ' h' =>
        rw [e, OS_ct] at q1
        obtain ⟨m', h1, h2⟩ := q1
        exact ih m' ρ' h' (by omega) h2
      | bk ρ' h' => rw [e, OS_bk] at q1; exact w_nx q1
      | rt d h' => rw [e, OS_rt] at q1; exact w_rt q1
      | exc x fs ρ' h' => rw [e, OS_exc] at q1; simp only [OS_exc]; exact q1
      | bad => rw [e, OS_bad] at q1; exact q1.elim
theorem w_while {c : MT} {body : MS} {n : Nat} {ρ : Slots} {h : MH} (I : Nat → SP) (m : Nat) (hm : m < n) (hi : I m ρ h)
    (hs : ∀ m ρ h, I m ρ h → Sat (c ρ h) (fun b h1 => Br (b = true) (OS (body ρ h1) (fun ρ' h' => ∃ m', m' < m ∧ I m' ρ' h') T N (fun ρ' h' => ∃ m', m' < m ∧ I m' ρ' h') E) (N ρ h1)) fun x fs h => E x fs ρ h) : OS (mWhile n c body ρ h) N T B C E :=
  w_whGo I (fun m ρ h hi => (hs m ρ h hi).monoE (fun b h1 z => ⟨z.1, fun e => z.2 (by rw [e]; decide)⟩) fun _ _ _ z => z) n m ρ h hm hi
end

end Mi

namespace Mi
open PySem L2
def m_cell_at_2c4cb : List D → MH → R D := mFun 2 2
 (mSeq (mIf (mB (mBin dLt (mVar 1) (mCall dLen (mCons (mVar 0) (mNil)))))
 (mRet (mBin dIx (mVar 0) (mVar 1)))
 (mSkip))
 (mRet (mC (.int 0))))
end Mi

namespace Mi
open PySem L2
end Mi

/-! Lists and tuples many times. -/
namespace Mi
open PySem PySem.Spec PyProof.Rows L2
section
variable {X : Cx}
/-- a tuple of one item so many times -/
def rRepF (K : PySem.W.Frag) : R2 := fun x y H Q => ∃ l k z, x = .ref l ∧ y = .int k ∧ SqT K H l [z] ∧ 1 ≤ k ∧ k ≤ 1000 ∧
  (k = 1 → Q (.ref l) H) ∧ (2 ≤ k → ∀ (p : Addr) (ob : Obj), H p = none → ob.dict = none → Q (.ref p) (upd H p (.frz ob (.tup (List.replicate k.toNat [z]).flatten))))
end
def dRep : D → D → MH → R D
  | .ref i, .int n, h => match h[i]? with
    | some (.lst l) => if 0 ≤ n ∧ n ≤ 1000 ∧ l.length ≤ 1000 then .ok (.ref h.length) (h ++ [.lst (List.replicate n.toNat l).flatten]) else .bad
    | _ => .bad
  | .tup [z], .int n, h => if 1 ≤ n ∧ n ≤ 1000 then .ok (.tup (List.replicate n.toNat [z]).flatten) h else .bad
  | _, _, _ => .bad
section
variable {X : Cx} {g : G}
def rRepA (K : PySem.W.Frag) : R2 := fun x y H Q => rRep x y H Q ∨ rRepF K x y H Q
end
end Mi

/-! zip of tuples; sum, max of a list of ints. -/
namespace Mi
open PySem L2
def zipT (x y : D) (h : MH) : R (List D × (MH → Bool)) := match x, y with
  | .tup l, .tup m => .ok (zipD l m, yes) h
  | _, _ => .bad
def mZipT (a b : ME) : MI := fun ρ h => (a ρ h).bind fun x h1 => (b ρ h1).bind fun y h2 => zipT x y h2
section
variable {X : Cx} {g : G} {W : WX} {a b : Expr} {ma mb : ME} {pos : Pos}
end
/-- sum of a list of ints -/
def dSum : List D → MH → R D
  | [.ref i], h => match (getL h i).bind allInt with
    | some ns => .ok (.int ns.sum) h
    | none => .bad
  | _, _ => .bad
def topI : List Int → Int
  | [] => 0
  | [a] => a
  | a :: l => if topI l < a then a else topI l
def dMaxL : List D → MH → R D
  | [.ref i], h => match (getL h i).bind allInt with
    | some ns => if 0 < ns.length then .ok (.int (topI ns)) h else .bad
    | none => .bad
  | _, _ => .bad
section
variable {g : G}
end
/-! the calculus -/
section
variable {Q : D → MH → Prop} {QI : List D × (MH → Bool) → MH → Prop} {E : XE} {ρ : Slots} {h : MH} {a b : ME}
end
end Mi

/-! Dicts with keys (in, get, put, displays of texts); classes of the program: fields, new ones, methods, isinstance; defaults. -/
namespace Mi
open PySem L2 PySem.Spec PyProof.Rows
/-! ### dicts -/
def valD (kvs : List (Key × D)) (k : Key) : Option D := (kvs.find? fun kv => decide (kv.1 = k)).map (·.2)
def putKD (kvs : List (Key × D)) (k : Key) (v : D) : List (Key × D) :=
  if (kvs.any fun kv => decide (kv.1 = k)) = true then kvs.map (fun kv => if kv.1 = k then (kv.1, v) else kv) else kvs ++ [(k, v)]
section
variable {g : G} {H : Hp} {μ : List Addr} {h : MH}
theorem KR.val (k : Key) : ∀ {kv : List (Key × V)} {kvs : List (Key × D)}, KR g H μ kv kvs → (valV kv k = none ∧ valD kvs k = none) ∨ ∃ v d, valV kv k = some v ∧ valD kvs k = some d ∧ VR g H μ v d
  | _, _, .nil => .inl ⟨rfl, rfl⟩
  | _, _, @KR.cons _ _ _ _ k' v d vs ds a b => by
    by_cases e : k' = k
    · refine .inr ⟨v, d, valV_pos e, ?_, a⟩
      simp [valD, List.find?_cons, e]
    · have e2 : valD ((k', d) :: ds) k = valD ds k := by simp [valD, List.find?_cons, e]
      rw [valV_neg (p := (k', v)) e, e2]
      exact KR.val k b
theorem KR.any (k : Key) : ∀ {kv : List (Key × V)} {kvs : List (Key × D)}, KR g H μ kv kvs → (kv.any fun p => decide (p.1 = k)) = kvs.any fun p => decide (p.1 = k)
  | _, _, .nil => rfl
  | _, _, .cons a b => by rw [List.any_cons, List.any_cons, KR.any k b]
theorem KR.repl (k : Key) {y : V} {u : D} (r : VR g H μ y u) : ∀ {kv : List (Key × V)} {kvs : List (Key × D)}, KR g H μ kv kvs → KR g H μ (kv.map fun p => if p.1 = k then (p.1, y) else p) (kvs.map fun p => if p.1 = k then (p.1, u) else p)
  | _, _, .nil => .nil
  | _, _, @KR.cons _ _ _ _ k' v d vs ds a b => by
    rw [List.map_cons, List.map_cons]
    by_cases e : k' = k
    · simp only [e, if_true]
      exact .cons r (KR.repl k r b)
    · simp only [e, if_false]
      exact .cons a (KR.repl k r b)
theorem KR.snoc {κ : Type} {k : κ} {y : V} {u : D} (r : VR g H μ y u) : ∀ {kv : List (κ × V)} {kvs : List (κ × D)}, KR g H μ kv kvs → KR g H μ (kv ++ [(k, y)]) (kvs ++ [(k, u)])
  | _, _, .nil => .cons r .nil
  | _, _, .cons a b => .cons a (KR.snoc r b)
theorem KR.put (k : Key) {y : V} {u : D} (r : VR g H μ y u) {kv : List (Key × V)} {kvs : List (Key × D)} (h : KR g H μ kv kvs) : KR g H μ (putK kv k y) (putKD kvs k u) := by
  unfold putK putKD
  rw [h.any k]
  split
  · exact h.repl k r
  · exact h.snoc r
theorem KR.len {κ : Type} : ∀ {kv : List (κ × V)} {kvs : List (κ × D)}, KR g H μ kv kvs → kv.length = kvs.length
  | _, _, .nil => rfl
  | _, _, .cons _ b => by rw [List.length_cons, List.length_cons, KR.len b]
def getK (h : MH) (x : D) : Option (List (Key × D)) := match x with
  | .ref i => match h[i]? with
    | some (.dK l) => some l
    | _ => none
  | _ => none
theorem getK_of {x : V} {d : D} {l : List (Key × D)} (hr : HR g H μ h) (vx : VR g H μ x d) (e : getK h d = some l) : ∃ i p kv, d = .ref i ∧ x = .ref p ∧ μ[i]? = some p ∧ h[i]? = some (.dK l) ∧ H p = some (.dK kv) ∧ KR g H μ kv l := by
  cases vx with
  | @ref p i hi =>
    simp only [getK] at e
    split at e
    · rename_i l' q
      cases e
      obtain ⟨kv, h1, h2⟩ := hr.ob _ _ _ hi q
      exact ⟨i, p, kv, rfl, rfl, hi, q, h1, h2⟩
    · cases e
  | _ => cases e
end
def dDIn (a b : D) (h : MH) : R D := match keyD a, getK h b with
  | some k, some l => .ok (.bl (valD l k).isSome) h
  | _, _ => .bad
def dDNotIn (a b : D) (h : MH) : R D := match keyD a, getK h b with
  | some k, some l => .ok (.bl (!(valD l k).isSome)) h
  | _, _ => .bad
def dDIx (a b : D) (h : MH) : R D := match getK h a, keyD b with
  | some l, some k => match valD l k with
    | some v => .ok v h
    | none => .bad
  | _, _ => .bad
def dDSet (x y d : D) (h : MH) : R Unit := match x, keyD y, getK h x with
  | .ref i, some k, some l => if l.length < 1000000 then .ok () (h.set i (.dK (putKD l k d))) else .bad
  | _, _, _ => .bad
def mDSet (o i e : ME) : MS := fun ρ h => (e ρ h).out ρ fun d h1 => (o ρ h1).out ρ fun x h2 => (i ρ h2).out ρ fun y h3 => (dDSet x y d h3).out ρ fun _ h4 => .nx ρ h4
def dDLen : List D → MH → R D
  | [x], h => match getK h x with
    | some l => .ok (.int l.length) h
    | none => .bad
  | _, _ => .bad
def rDIn : R2 := fun x y H Q => ∃ a k kvs, x = kV k ∧ y = .ref a ∧ H a = some (.dK kvs) ∧ Q (.bl (valV kvs k).isSome) H
def rDNotIn : R2 := fun x y H Q => ∃ a k kvs, x = kV k ∧ y = .ref a ∧ H a = some (.dK kvs) ∧ Q (.bl (!(valV kvs k).isSome)) H
def rSetD : V → V → V → Hp → (Hp → Prop) → Prop := fun o i v H Q => ∃ a k kvs, o = .ref a ∧ i = kV k ∧ H a = some (.dK kvs) ∧ kvs.length < sizeLine ∧ Q (upd H a (.dK (putK kvs k v)))
section
variable {X : Cx} {g : G} {W : WX}
theorem set_dict (hu : X.A.units + 65 < cLine) : PSet X rSetD := fun pins s σ H o i v ov iv u Q I ro ri rv ⟨a, k, kvs, eo, ei, ea, hl, q⟩ => by
  subst eo ei
  cases ro
  exact d_setItem (by omega) I (.k ea hl) ri rv fun s' I' => ⟨_, I', q⟩
variable {o i e : Expr} {mo mi me : ME} {pos p2 : Pos}
end
/-! ### displays of texts -/
def mergeD (l : List (Str × Str)) (acc : List (Key × D)) : List (Key × D) := match l with
  | [] => acc
  | p :: r => mergeD r (putKD acc (.inr p.1) (.str p.2))
def mDictC (l : List (Str × Str)) : ME := fun _ h => .ok (.ref h.length) (h ++ [.dK (mergeD l [])])
section
variable {X : Cx} {g : G} {W : WX} {pos : Pos}
def trsC (g : G) (W : WX) (l : List (Str × Str)) : List (TE × TE) := l.map fun p => (tE g W (mC (.str p.1)), tE g W (mC (.str p.2)))
end
/-! ### classes of the program -/
def insOf (h : MH) (x : D) : Option (Nat × Str × List (Str × D)) := match x with
  | .ref i => match h[i]? with
    | some (.ins c fs) => some (i, c, fs)
    | _ => none
  | _ => none
def putFD (f : Str) (v : D) : List (Str × D) → List (Str × D)
  | [] => [(f, v)]
  | (g, x) :: r => if g = f then (g, v) :: r else (g, x) :: putFD f v r
def mFld (cs : List Str) (f : Str) (a : ME) : ME := fun ρ h => (a ρ h).bind fun x h1 => match insOf h1 x with
  | some (_, c, fs) => if c ∈ cs then match fs.lookup f with
    | some v => .ok v h1
    | none => .bad else .bad
  | none => .bad
def mSetFld (cs : List Str) (f : Str) (o e : ME) : MS := fun ρ h => (e ρ h).out ρ fun d h1 => (o ρ h1).out ρ fun x h2 => match insOf h2 x with
  | some (i, c, fs) => if c ∈ cs ∧ fs.length < 1000 then .nx ρ (h2.set i (.ins c (putFD f d fs))) else .bad
  | none => .bad
def mNew (c : Str) (F : List D → MH → R D) (r : MA) : ME := fun ρ h => (r ρ h).bind fun xs h1 => (F (.ref h1.length :: xs) (h1 ++ [.ins c []])).bind fun y h2 => match y with
  | .non => .ok (.ref h1.length) h2
  | _ => .bad
abbrev MTab := List (Str × (List D → MH → R D))
def mMethI (m : Str) (tab : MTab) (o : ME) (r : MA) : ME := fun ρ h => (o ρ h).bind fun x h1 => match insOf h1 x with
  | some (_, c, fs) => match tab.lookup c with
    | some F => if fs.lookup m = none then (r ρ h1).bind fun xs h2 => F (x :: xs) h2 else .bad
    | none => .bad
  | none => .bad
def mIsC (tab : List (Str × Bool)) (a : ME) : ME := fun ρ h => (a ρ h).bind fun x h1 => match insOf h1 x with
  | some (_, c, _) => match tab.lookup c with
    | some b => .ok (.bl b) h1
    | none => .bad
  | none => .bad
section
variable {g : G} {H : Hp} {μ : List Addr} {h : MH}
theorem KR.lookup (f : Str) : ∀ {fv : List (Str × V)} {fs : List (Str × D)}, KR g H μ fv fs → (fv.lookup f = none ∧ fs.lookup f = none) ∨ ∃ v d, fv.lookup f = some v ∧ fs.lookup f = some d ∧ VR g H μ v d
  | _, _, .nil => .inl ⟨rfl, rfl⟩
  | _, _, @KR.cons _ _ _ _ k v d vs ds a b => by
    rw [List.lookup_cons, List.lookup_cons]
    cases (f == k) with
    | true => exact .inr ⟨v, d, rfl, rfl, a⟩
    | false => exact KR.lookup f b
end
/-- classes with a field: none of their classes has its name -/
def CT (K : PySem.W.Frag) (f : Str) (cs : List Str) : Prop := ∀ c ∈ cs, ∀ C, cmOf K c = some C → Cls K C ∧ NoAttr K C f
def clsB (K : PySem.W.Frag) (C : Addr) : Bool := PySem.W.plainGet K C Str.empty && (PySem.W.hasDictIn K C && (PySem.W.plainOver K C && decide (PySem.W.findIn K (.ref C) "__setattr__" = some (some (.builtin "object.__setattr__")))))
def ctB (K : PySem.W.Frag) (f : Str) (cs : List Str) : Bool := cs.all fun c => match cmOf K c with
  | some C => clsB K C && decide (PySem.W.findIn K (.ref C) f = some none)
  | none => false
/-- isinstance of own classes -/
structure ClsI (K : PySem.W.Frag) (C : Addr) : Prop where
  cl : Cls K C
  ha : PySem.W.findIn K (.ref C) "__class__" = some (some (.builtin "object.__class__"))
  hn : PySem.W.specialIn K (.builtin "object.__class__") "__get__" = some (some (.builtin "getset_descriptor.__get__"))
  ht : PySem.W.takesIn K (.builtin "object.__class__") = some true
  hm : PySem.W.mroIn K C (.type "object") = some true
def clsIB (K : PySem.W.Frag) (C : Addr) : Bool := clsB K C && (decide (PySem.W.findIn K (.ref C) "__class__" = some (some (.builtin "object.__class__"))) &&
  (decide (PySem.W.specialIn K (.builtin "object.__class__") "__get__" = some (some (.builtin "getset_descriptor.__get__"))) && (decide (PySem.W.takesIn K (.builtin "object.__class__") = some true) && decide (PySem.W.mroIn K C (.type "object") = some true))))
def IsC (K : PySem.W.Frag) (mg : Str → Option Value) (y : Str) (l : List (Str × Bool)) : Prop := ∃ D, mg y = some (.ref D) ∧ ∀ c b C, l.lookup c = some b → cmOf K c = some C → ClsI K C ∧ PySem.W.kitOne K (.ref C) (.ref D) = some b
def isCB (K : PySem.W.Frag) (y : Str) (l : List (Str × Bool)) : Bool := match cmOf K y with
  | some D => l.all fun p => match cmOf K p.1 with
    | some C => clsIB K C && (PySem.W.kitOne K (.ref C) (.ref D) == some p.2)
    | none => false
  | none => false
/-- a method of a class -/
def MtOf (P : Program) (w : World) (K : PySem.W.Frag) (mg : Str → Option Value) (base : Heap) (c m : Str) (k : Nat) (F : List D → MH → R D) : Prop :=
  ∃ C f fd ps, cmOf K c = some C ∧ Cls K C ∧ Meth K C m f ∧ FnOk P w K mg base (L2.CX P w) k f fd ps (spM (gOf w K) F) ∧ Binds K fd ps []
def Mt (P : Program) (w : World) (K : PySem.W.Frag) (mg : Str → Option Value) (base : Heap) (m : Str) (k : Nat) (tab : MTab) : Prop := ∀ c F, tab.lookup c = some F → MtOf P w K mg base c m k F
/-- a class that is made -/
def MkOf (P : Program) (w : World) (K : PySem.W.Frag) (mg : Str → Option Value) (base : Heap) (c : Str) (k : Nat) (F : List D → MH → R D) : Prop :=
  ∃ C f fd ps, cmOf K c = some C ∧ mg c = some (.ref C) ∧ Mk K C f ∧ FnOk P w K mg base (L2.CX P w) k f fd ps (spM (gOf w K) F) ∧ Binds K fd ps []
section
variable {P : Program} {w : World} {K : PySem.W.Frag} {mg : Str → Option Value} {base : Heap} {m : Str} {k : Nat}
theorem MtOf.mono {c : Str} {F : List D → MH → R D} {j : Nat} (e : MtOf P w K mg base c m j F) (h : j ≤ k) : MtOf P w K mg base c m k F := by
  obtain ⟨C, f, fd, ps, h1, h2, h3, h4, h5⟩ := e
  exact ⟨C, f, fd, ps, h1, h2, h3, h4.mono h, h5⟩
theorem Mt.mono {tab : MTab} {j : Nat} (e : Mt P w K mg base m j tab) (h : j ≤ k) : Mt P w K mg base m k tab := fun c F q => (e c F q).mono h
end
section
variable {X : Cx} {W : WX} {a e o : Expr} {es : List Expr} {ma me mo : ME} {mr : MA} {p p2 pos apos : Pos} {f m : Str} {cs : List Str}
end
end Mi

/-! Defs of classes by their texts; defs with defaults. -/
namespace Mi
open PySem L2 PySem.Spec PyProof.Rows
/-- a method as it stands -/
def Dm (K : PySem.W.Frag) (c m qual : Str) (st : Stmt) (ps : List Str) : Prop := ∃ C f fd, cmOf K c = some C ∧ Cls K C ∧ Meth K C m f ∧ Fun K m qual st f fd ∧ Binds K fd ps []
/-- an __init__ as it stands -/
def Di (K : PySem.W.Frag) (mg : Str → Option Value) (c qual : Str) (st : Stmt) (ps : List Str) : Prop := ∃ C f fd, cmOf K c = some C ∧ mg c = some (.ref C) ∧ Mk K C f ∧ Fun K "__init__" qual st f fd ∧ Binds K fd ps []
section
variable {P : Program} {w : World} {K : PySem.W.Frag} {mg : Str → Option Value} {base : Heap} {h : Heap}
theorem MkOf.mono {c : Str} {F : List D → MH → R D} {j k : Nat} (e : MkOf P w K mg base c j F) (h : j ≤ k) : MkOf P w K mg base c k F := by
  obtain ⟨C, f, fd, ps, h1, h2, h3, h4, h5⟩ := e
  exact ⟨C, f, fd, ps, h1, h2, h3, h4.mono h, h5⟩
end
section
variable {P : Program} {w : World} {K : PySem.W.Frag} {mg : Str → Option Value} {base : Heap}
end
/-! ### defaults -/
def vOf : D → V
  | .non => .non | .bl b => .bl b | .int i => .int i | .str x => .str x | _ => .non
def DfD (K : PySem.W.Frag) (mg : Str → Option Value) (x : Str) (st : Stmt) (ps : List Str) (ds : List D) : Prop := ∃ f fd, FunD K x x (defArgs st) (defBody st) (defScope st) (ds.map vOf) [] f fd ∧ mg x = some (.ref f) ∧ ∀ j, j ≤ ds.length → ∃ uds, Vals ((ds.map vOf).drop j) uds ∧ Binds K fd ps uds
def CalD (P : Program) (w : World) (K : PySem.W.Frag) (mg : Str → Option Value) (base : Heap) (x : Str) (k : Nat) (F : List D → MH → R D) (ds : List D) : Prop :=
  ∃ f fd ps, FnOk P w K mg base (L2.CX P w) k f fd ps (spM (gOf w K) F) ∧ mg x = some (.ref f) ∧ PySem.W.keepIn K (.ref f) = true ∧ ∀ j, j ≤ ds.length → ∃ uds, Vals ((ds.map vOf).drop j) uds ∧ Binds K fd ps uds
def mCallD (F : List D → MH → R D) (ds : List D) (r : MA) : ME := fun ρ h => (r ρ h).bind fun xs h1 => F (xs ++ ds) h1
section
variable {P : Program} {w : World} {K : PySem.W.Frag} {mg : Str → Option Value} {base : Heap}
end
section
variable {X : Cx} {W : WX} {e : Expr} {es : List Expr} {mr : MA} {p pos : Pos}
end
end Mi

/-! The calculus for classes, dicts, defaults; cells of one's own of any kind. -/
namespace Mi
open PySem L2
/-! ### cells of any kind -/
abbrev CL := List (Nat × MO)
structure Cel (h0 h : MH) (L : CL) : Prop where
  pre : h0 <+: h
  cell : ∀ p ∈ L, h0.length ≤ p.1 ∧ h[p.1]? = some p.2
  nd : (L.map (·.1)).Nodup
section
variable {h0 h h' h1 : MH} {L M : CL} {i : Nat} {l l' : MO}
theorem Cel.nil (h : MH) : Cel h h [] := ⟨List.prefix_rfl, fun p hp => by simp at hp, List.nodup_nil⟩
theorem Cel.ext (o : Cel h0 h L) (p : h <+: h') : Cel h0 h' L := ⟨o.pre.trans p, fun q hq => ⟨(o.cell q hq).1, pre_get p (o.cell q hq).2⟩, o.nd⟩
theorem Cel.lt (o : Cel h0 h L) {p : Nat × MO} (hp : p ∈ L) : p.1 < h.length := (List.getElem?_eq_some_iff.mp (o.cell p hp).2).1
theorem Cel.add (o : Cel h0 h L) (hi : h0.length ≤ i) (e : h[i]? = some l) (n : ∀ p ∈ L, p.1 ≠ i) : Cel h0 h ((i, l) :: L) :=
  ⟨o.pre, fun q hq => by
    rcases List.mem_cons.mp hq with rfl | hq
    · exact ⟨hi, e⟩
    · exact o.cell q hq, List.nodup_cons.mpr ⟨fun hm => by
      obtain ⟨p, hp, rfl⟩ := List.mem_map.mp hm
      exact n p hp rfl, o.nd⟩⟩
theorem Cel.alloc (o : Cel h0 h L) (x : MO) : Cel h0 (h ++ [x]) ((h.length, x) :: L) :=
  (o.ext (List.prefix_append _ _)).add (o.pre.length_le) (by simp) fun p hp => Nat.ne_of_lt (o.lt hp)
theorem Cel.at (o : Cel h0 h L) (n : Nat) (e : L[n]? = some (i, l)) : h[i]? = some l := (o.cell _ (List.mem_of_getElem? e)).2
theorem Cel.atL {l : List D} (o : Cel h0 h L) (n : Nat) (e : L[n]? = some (i, .lst l)) : getL h i = some l := getL_of (o.at n e)
theorem Cel.isL {l : List D} (o : Cel h0 h L) (n : Nat) (e : L[n]? = some (i, .lst l)) : isListD (.ref i) h = true := by rw [isListD_ref, o.atL n e]; rfl
theorem Cel.setAt (o : Cel h0 h L) (n : Nat) (e : L[n]? = some (i, l)) (l' : MO) : Cel h0 (h.set i l') (L.set n (i, l')) := by
  have hn : n < L.length := (List.getElem?_eq_some_iff.mp e).1
  have en : L[n] = (i, l) := (List.getElem?_eq_some_iff.mp e).2
  have hi : i < h.length := o.lt (List.mem_of_getElem? e)
  have h0i : h0.length ≤ i := (o.cell _ (List.mem_of_getElem? e)).1
  have em : (L.set n (i, l')).map (·.1) = L.map (·.1) := by
    rw [List.map_set]
    refine List.ext_getElem (by simp) fun k h1 h2 => ?_
    rw [List.getElem_set]
    split
    · rename_i q
      subst q
      rw [List.getElem_map, en]
    · rfl
  refine ⟨?_, fun q hq => ?_, by rw [em]; exact o.nd⟩
  · obtain ⟨t, rfl⟩ := o.pre
    rw [List.set_append_right _ _ h0i]
    exact List.prefix_append _ _
  · obtain ⟨k, hk, e2⟩ := List.mem_iff_getElem.mp hq
    rw [List.getElem_set] at e2
    split at e2
    · subst e2
      exact ⟨h0i, by simp [hi]⟩
    · rename_i hne
      have hk' : k < L.length := by simpa using hk
      have hm : q ∈ L := e2 ▸ List.getElem_mem hk'
      refine ⟨(o.cell q hm).1, ?_⟩
      rw [List.getElem?_set_ne]
      · exact (o.cell q hm).2
      · intro z
        have h1 : (L.map (·.1))[n]'(by simpa using hn) = (L.map (·.1))[k]'(by simpa using hk') := by
          rw [List.getElem_map, List.getElem_map, en, e2]
          exact z
        exact hne ((List.getElem_inj o.nd).mp h1)
theorem Cel.trans (o : Cel h0 h L) (o' : Cel h h' M) : Cel h0 h' (M ++ L) := by
  have o2 := o.ext o'.pre
  refine ⟨o2.pre, fun q hq => ?_, ?_⟩
  · rcases List.mem_append.mp hq with hq | hq
    · exact ⟨Nat.le_trans o.pre.length_le (o'.cell q hq).1, (o'.cell q hq).2⟩
    · exact o2.cell q hq
  · rw [List.map_append, List.nodup_append]
    refine ⟨o'.nd, o.nd, fun a ha b hb => ?_⟩
    obtain ⟨p, hp, rfl⟩ := List.mem_map.mp ha
    obtain ⟨q, hq, rfl⟩ := List.mem_map.mp hb
    have h1 := (o'.cell p hp).1
    have h2 := o.lt hq
    omega
theorem Cel.sub (o : Cel h0 h L) (s : M.Sublist L) : Cel h0 h M := ⟨o.pre, fun p hp => o.cell p (s.subset hp), (s.map _).nodup o.nd⟩
theorem Cel.tail {p : Nat × MO} (o : Cel h0 h (p :: L)) : Cel h0 h L := o.sub (List.sublist_cons_self _ _)
theorem Cel.none (o : Cel h0 h L) : Cel h0 h [] := o.sub (List.nil_sublist _)
theorem Own.cel {L : LL} (o : Own h0 h L) : Cel h0 h (L.map fun p => (p.1, .lst p.2)) := ⟨o.pre, fun p hp => by
  obtain ⟨q, hq, rfl⟩ := List.mem_map.mp hp
  exact o.cell q hq, by rw [List.map_map]; exact o.nd⟩
/-! ### rules -/
variable {Q : D → MH → Prop} {E : XE} {a b o : ME} {r : MA} {ρ : Slots} {N : SP} {T : D → MH → Prop} {B C : SP} {X : SX}
theorem c_new {xs : List D} (o : Cel h0 h L) (l : xs.length ≤ 1000000) (q : ∀ i h', Cel h0 h' ((i, .lst xs) :: L) → Q (.ref i) h') : Sat (toLst xs h) Q E := w_toLst l (q _ _ (o.alloc _))
theorem c_app {d : D} {l : List D} (o : Cel h0 h L) (n : Nat) (e : L[n]? = some (i, .lst l)) (c : l.length < 1000000) (q : ∀ h', Cel h0 h' (L.set n (i, .lst (l ++ [d]))) → Q .non h') : Sat (dAppend (.ref i) [d] h) Q E := w_app (o.at n e) c (q _ (o.setAt n e _))
theorem c_dict0 (o : Cel h0 h L) (q : ∀ i h', Cel h0 h' ((i, .dK []) :: L) → Q (.ref i) h') : Sat (mDict0 ρ h) Q E := w_dict0 (q _ _ (o.alloc _))
def fldK (cs : List Str) (f : Str) (x : D) (h1 : MH) : R D := match insOf h1 x with
  | some (_, c, fs) => if c ∈ cs then match fs.lookup f with
    | some v => .ok v h1
    | none => .bad else .bad
  | none => .bad
def setFldK (cs : List Str) (f : Str) (d x : D) (ρ : Slots) (h2 : MH) : Out := match insOf h2 x with
  | some (i, c, fs) => if c ∈ cs ∧ fs.length < 1000 then .nx ρ (h2.set i (.ins c (putFD f d fs))) else .bad
  | none => .bad
def methK (m : Str) (tab : MTab) (r : MA) (ρ : Slots) (x : D) (h1 : MH) : R D := match insOf h1 x with
  | some (_, c, fs) => match tab.lookup c with
    | some F => if fs.lookup m = none then (r ρ h1).bind fun xs h2 => F (x :: xs) h2 else .bad
    | none => .bad
  | none => .bad
def isCK (tab : List (Str × Bool)) (x : D) (h1 : MH) : R D := match insOf h1 x with
  | some (_, c, _) => match tab.lookup c with
    | some b => .ok (.bl b) h1
    | none => .bad
  | none => .bad
theorem getK_ref {l : List (Key × D)} (e : h[i]? = some (.dK l)) : getK h (.ref i) = some l := by simp only [getK, e]
theorem w_dSet {QU : Unit → MH → Prop} {l : List (Key × D)} {x d : D} {k : Key} (hx : keyD x = some k) (e : h[i]? = some (.dK l)) (c : l.length < 1000000) (q : QU () (h.set i (.dK (putKD l k d)))) : Sat (dDSet (.ref i) x d h) QU E := w_eq (by unfold dDSet; rw [hx, getK_ref e]; simp only [c, if_true]) q
theorem c_dSet {QU : Unit → MH → Prop} {l : List (Key × D)} {x d : D} {k : Key} (hx : keyD x = some k) (o : Cel h0 h L) (n : Nat) (e : L[n]? = some (i, .dK l)) (c : l.length < 1000000) (q : ∀ h', Cel h0 h' (L.set n (i, .dK (putKD l k d))) → QU () h') : Sat (dDSet (.ref i) x d h) QU E :=
  w_dSet hx (o.at n e) c (q _ (o.setAt n e _))
end
end Mi

namespace Mi
open PySem L2
def m_any_names_23d34 : List D → MH → R D := mFun 2 8
 (mSeq (mAsg 2 (mC (.str (Str.ofString "abcdefghijklmnopqrstuvwxyz"))))
 (mSeq (mAsg 3 (mLst (mNil)))
 (mSeq (mFor (mRange1 (mVar 1)) (mgName 4)
 (mSeq (mAsg 5 (mBin dAdd (mC (.int 1)) (mBin dMod (mVar 0) (mC (.int 8)))))
 (mSeq (mAsg 0 (mBin dFdiv (mVar 0) (mC (.int 8))))
 (mSeq (mAsg 6 (mC (.str (Str.ofString ""))))
 (mSeq (mWhile 1000 (mB (mBin dLt (mCall dLen (mCons (mVar 6) (mNil))) (mVar 5)))
 (mSeq (mAsg 6 (mBin dAdd (mVar 6) (mBin dIx (mVar 2) (mBin dMod (mVar 0) (mC (.int 26))))))
 (mAsg 0 (mBin dFdiv (mVar 0) (mC (.int 26))))))
 (mSeq (mAsg 7 (mC (.int 0)))
 (mSeq (mWhile 1000 (mB (mBin dIn (mVar 6) (mVar 3)))
 (mSeq (mAsg 6 (mBin dMul (mBin dIx (mVar 2) (mBin dMod (mVar 7) (mC (.int 26)))) (mBin dAdd (mC (.int 1)) (mBin dFdiv (mVar 7) (mC (.int 26))))))
 (mAsg 7 (mBin dAdd (mVar 7) (mC (.int 1))))))
 (mDrop (mMeth isListD dAppend (mVar 3) (mCons (mVar 6) (mNil)))))))))))
 (mRet (mVar 3)))))
def m_numbers_0d805 : List D → MH → R D := mFun 3 9
 (mSeq (mAsg 3 (mLc (mRange1 (mCall dMax (mCons (mC (.int 1)) (mCons (mCall dMin (mCons (mC (.int 20)) (mCons (mBin dSub (mCall dLen (mCons (mVar 0) (mNil))) (mVar 1)) (mNil)))) (mNil))))) (mgName 6) (mYes) (mCall (m_cell_at_2c4cb) (mCons (mVar 0) (mCons (mBin dAdd (mVar 1) (mVar 6)) (mNil)))) [6]))
 (mSeq (mAsg 4 (mLst (mNil)))
 (mSeq (mAsg 5 (mC (.int 48271)))
 (mSeq (mFor (mRange1 (mVar 2)) (mgName 6)
 (mSeq (mAsg 7 (mBin dMod (mVar 6) (mCall dLen (mCons (mVar 3) (mNil)))))
 (mSeq (mAsg 8 (mBin dMod (mCall (m_cell_at_2c4cb) (mCons (mVar 0) (mCons (mBin dAdd (mVar 1) (mVar 6)) (mNil)))) (mC (.int 2147483647))))
 (mSeq (mAsg 5 (mBin dMod (mBin dAdd (mBin dAdd (mBin dAdd (mBin dMul (mVar 5) (mC (.int 69621))) (mBin dMul (mVar 8) (mC (.int 48271)))) (mBin dMul (mVar 6) (mVar 6))) (mC (.int 1))) (mC (.int 2147483647))))
 (mSeq (mDrop (mMeth isListD dAppend (mVar 4) (mCons (mBin dFdiv (mVar 5) (mC (.int 32))) (mNil))))
 (mIf (mB (mBin dGe (mBin dIx (mVar 3) (mVar 7)) (mBin dPow (mC (.int 10)) (mC (.int 18)))))
 (mSeq (mSetIx (mVar 4) (mVar 6) (mBin dMod (mBin dIx (mVar 3) (mVar 7)) (mC (.int 67108864))))
 (mSetIx (mVar 3) (mVar 7) (mBin dFdiv (mBin dIx (mVar 3) (mVar 7)) (mC (.int 67108864)))))
 (mSkip)))))))
 (mRet (mVar 4))))))
end Mi

namespace Mi
open PySem L2
local macro_rules | `(tactic| walk_at "w") => `(tactic| first
  | with_reducible refine w_seq ?_
  | with_reducible refine w_asg ?_
  | with_reducible refine w_cons ?_
  | with_reducible refine w_nil ?_
  | with_reducible refine w_c ?_
  | ((with_reducible refine w_var (d := ?_) ?_ ?_); rotate_left; rfl)
  | with_reducible refine w_bin ?_
  | with_reducible refine w_call ?_
  | with_reducible refine w_if ?_
  | with_reducible refine w_B ?_
  | with_reducible refine w_unB ?_
  | with_reducible refine w_ret ?_
  | with_reducible refine w_drop ?_
  | with_reducible refine w_skip ?_
  | with_reducible refine w_eq (dAdd_int _ _ _) ?_
  | with_reducible refine w_eq (dSub_int _ _ _) ?_
  | with_reducible refine w_eq (dEq_int _ _ _) ?_
  | with_reducible refine w_eq (dEq_str _ _ _) ?_
  | with_reducible refine w_eq (dLt_int _ _ _) ?_
  | with_reducible refine w_eq (dLe_int _ _ _) ?_
  | with_reducible refine w_eq (dGt_int _ _ _) ?_
  | with_reducible refine w_eq (dGe_int _ _ _) ?_
  | with_reducible refine w_eq (dNe_int _ _ _) ?_
  | ((with_reducible refine w_mod ?_ ?_); (first | assumption | decide | omega))
  | ((with_reducible refine w_fdiv ?_ ?_); (first | assumption | decide | omega))
  | ((with_reducible refine w_mulS ?_ ?_); (first | decide | omega))
  | ((with_reducible refine w_addS ?_ ?_); (first | assumption | decide | omega))
  | ((with_reducible refine w_lenS ?_ ?_); (first | assumption | decide | omega))
  | ((with_reducible refine w_slS ?_ ?_); (first | assumption | decide | omega))
  | with_reducible refine w_eq (dLen_tup _ _) ?_
  | with_reducible refine w_eq (dSl_tup _ _ _ _) ?_
  | with_reducible refine w_eq (dMax_ev _ _ _) ?_
  | with_reducible refine w_eq (dMin_ev _ _ _) ?_
  | with_reducible refine w_eq (dAbs_ev _ _) ?_
  | with_reducible refine w_not ?_
  | with_reducible refine w_and ?_
  | with_reducible refine w_or ?_
  | with_reducible refine br_n ?_
  | with_reducible refine br_tt ?_
  | with_reducible refine br_ff ?_
  | ((with_reducible refine br_dt ?_ ?_); (first | assumption | omega))
  | ((with_reducible refine br_df ?_ ?_); (first | assumption | omega))
  | with_reducible refine w_tup ?_
  | ((with_reducible refine w_toTup ?_ ?_); (first | (simp; done)))
  | with_reducible refine w_lst ?_
  | with_reducible refine w_lc ?_
  | with_reducible refine w_for ?_
  | with_reducible refine w_range1 ?_
  | with_reducible refine w_range2 ?_
  | ((with_reducible refine w_dR1 ?_ ?_); (first | decide | omega))
  | ((with_reducible refine w_dR2 ?_ ?_); (first | decide | omega))
  | with_reducible refine w_iter ?_
  | with_reducible refine w_eq (iter1_tup _ _) ?_
  | with_reducible refine w_eq (iter1_str _ _) ?_
  | with_reducible refine w_sl ?_
  | with_reducible refine w_no ?_
  | with_reducible refine w_some ?_
  | with_reducible refine w_unI ?_
  | with_reducible refine w_meth ?_
  | with_reducible refine w_isi ?_
  | with_reducible refine w_zip ?_
  | with_reducible refine w_ifE ?_
  | with_reducible refine w_andV ?_
  | with_reducible refine w_orV ?_
  | with_reducible refine w_notV ?_
  | with_reducible refine w_andK ?_
  | with_reducible refine w_orK ?_
  | with_reducible refine w_notK ?_
  | with_reducible refine w_revL ?_
  | with_reducible refine w_listRg1 ?_
  | with_reducible refine w_tindex ?_
  | with_reducible refine w_setIx ?_
  | with_reducible refine w_un ?_
  | with_reducible refine w_rev1 ?_
  | with_reducible refine w_rev2 ?_
  | with_reducible refine w_chain ?_
  | with_reducible refine w_chK ?_
  | with_reducible refine w_retN ?_
  | with_reducible refine w_brk ?_
  | with_reducible refine w_cont ?_
  | with_reducible refine w_asgT ?_
  | with_reducible refine w_eq (isi_str_str _ _) ?_
  | with_reducible refine w_eq (isi_int_int _ _) ?_
  | with_reducible refine w_eq (isi_tup_tup _ _) ?_)
local macro_rules | `(tactic| walk_at "go") => `(tactic| (repeat (walk_at "w")); try dsimp only [List.set])
local macro_rules | `(tactic| walk_at "fn") => `(tactic| ((refine w_fun ?_); simp only [startD, List.map_cons, List.map_nil, List.reduceReplicate, Nat.reduceSub, List.cons_append, List.nil_append]; walk_at "go"))
theorem mod_in (x : Int) {n : Int} (h : 0 < n) : 0 ≤ x % n ∧ x % n < n := ⟨Int.emod_nonneg _ (by omega), Int.emod_lt_of_pos _ h⟩
def Cell (c : Int) : Prop := Builtin.Int.intBits c ≤ 1048576
theorem c_cell_at {ns : List Int} (hb : ∀ z ∈ ns, Cell z) {h : MH} {i : Nat} (hl : getL h i = some (ns.map D.int)) {k : Int} (h0 : 0 ≤ k) : Sat (m_cell_at_2c4cb [.ref i, .int k] h) (fun d h' => h' = h ∧ ∃ c, d = .int c ∧ Cell c) noX := by
  walk_at "fn"
  refine w_lenL hl ?_
  walk_at "go"
  refine br_d (fun c => ?_) (fun c => ?_)
  · walk_at "go"
    rw [List.length_map] at c
    obtain ⟨d, e1, e2⟩ := atI_in (l := ns.map D.int) h0 (by simpa using c)
    refine w_ixL hl e1 ⟨rfl, ?_⟩
    rw [List.getElem?_map, Option.map_eq_some_iff] at e2
    obtain ⟨z, e3, rfl⟩ := e2
    exact ⟨z, rfl, hb z (List.mem_of_getElem? e3)⟩
  · walk_at "go"
    exact ⟨rfl, 0, rfl, show Builtin.Int.intBits 0 ≤ 1048576 by decide⟩
def Tp (l : List D) : Prop := ∃ zs : List Int, l = zs.map .int ∧ ∀ z ∈ zs, 0 ≤ z ∧ z < 2147483648
theorem Tp.nil : Tp [] := ⟨[], rfl, fun z hz => by simp at hz⟩
theorem Tp.app {l : List D} {v : Int} (t : Tp l) (hv : 0 ≤ v ∧ v < 2147483648) : Tp (l ++ [.int v]) := by
  obtain ⟨zs, rfl, hz⟩ := t
  refine ⟨zs ++ [v], by simp, fun z hm => ?_⟩
  rcases List.mem_append.mp hm with hm | hm
  · exact hz z hm
  · rw [List.mem_singleton.mp hm]; exact hv
/-! equal lists of scalars -/
theorem allSome_map {α β : Type} (g : α → β) : ∀ l : List α, allSome (l.map fun a => some (g a)) = some (l.map g)
  | [] => rfl
  | a :: l => by simp [allSome, allSome_map g l]
structure Scal {α : Type} (S : α → Prop) (f : α → D) (g : α → PyData) : Prop where
  py : ∀ n h a, pyOf (n + 1) h (f a) = some (g a)
  lay : ∀ a, S a → PyData.canLay0 (g a) = true
  dep : ∀ a, PyData.depth (g a) = 0
  ev : ∀ a b, PyData.eqv (g a) (g b) = true ↔ a = b
theorem Scal.all {α : Type} {S : α → Prop} {f : α → D} {g : α → PyData} (c : Scal S f g) : ∀ {l : List α}, (∀ a ∈ l, S a) → PyData.canLayAll0 (l.map g) = true ∧ PyData.depthAll (l.map g) = 0
  | [], _ => ⟨rfl, rfl⟩
  | a :: l, h => by
    obtain ⟨h1, h2⟩ := c.all (l := l) fun b hb => h b (List.mem_cons_of_mem _ hb)
    simp only [List.map_cons, PyData.canLayAll0, PyData.depthAll, c.lay a (h a List.mem_cons_self), h1, c.dep, h2]
    exact ⟨rfl, rfl⟩
theorem Scal.eq {α : Type} {S : α → Prop} {f : α → D} {g : α → PyData} (c : Scal S f g) [DecidableEq α] : ∀ {l m : List α}, PyData.eqvAll (l.map g) (m.map g) = decide (l = m)
  | [], [] => rfl
  | a :: l, [] => rfl
  | [], a :: l => rfl
  | a :: l, b :: m => by
    simp only [List.map_cons, PyData.eqvAll, c.eq (l := l) (m := m)]
    rw [Bool.eq_iff_iff, Bool.and_eq_true, c.ev, decide_eq_true_iff, decide_eq_true_iff, List.cons.injEq]
theorem Scal.eqL {α : Type} {S : α → Prop} {f : α → D} {g : α → PyData} (c : Scal S f g) [DecidableEq α] {h : MH} {i j : Nat} {l m : List α} (hi : getL h i = some (l.map f)) (hj : getL h j = some (m.map f)) (hl : ∀ a ∈ l, S a) (hm : ∀ a ∈ m, S a) : eqD (.ref i) (.ref j) h = some (decide (l = m)) := by
  have py : ∀ (l : List α), (allSome ((l.map f).map (pyOf 59 h))) = some (l.map g) := fun l => by
    rw [List.map_map, ← allSome_map g l]
    congr 1
    exact List.map_congr_left fun a _ => c.py 58 h a
  have sh : ∀ (l : List α), (∀ a ∈ l, S a) → SeqAt.shaped (.list (l.map g)) = true := fun l hl => by
    obtain ⟨h1, h2⟩ := c.all hl
    simp only [SeqAt.shaped, PyData.canLay0, PyData.depth, h1, h2]
    rfl
  unfold eqD
  rw [if_neg (by simp [scalD])]
  simp only [pyOf, hi, hj, Option.bind_some, py, Option.map_some, sh l hl, sh m hm, true_and, if_true, PyData.eqv, c.eq]
theorem scal_int : Scal (fun _ => True) D.int PyData.int := ⟨fun _ _ _ => rfl, fun _ _ => rfl, fun _ => rfl, fun a b => by simp [PyData.eqv]⟩
def OkS (x : Str) : Prop := ∀ c ∈ x.cps.toList, c < 1114112
theorem scal_str : Scal OkS D.str PyData.str := ⟨fun _ _ _ => rfl, fun a h => by
  simp only [PyData.canLay0, PyData.strOk]
  rw [Array.all_eq_true']
  intro x hx
  exact decide_eq_true (h x (Array.mem_toList_iff.mpr hx)), fun _ => rfl, fun a b => by simp [PyData.eqv]⟩
theorem set_self {α : Type} {l : List α} {n : Nat} {a : α} (e : l[n]? = some a) : l.set n a = l := by
  obtain ⟨h1, h2⟩ := List.getElem?_eq_some_iff.mp e
  subst h2
  exact List.set_getElem_self h1
/-! names -/
def Wd (n : Nat) (x : Str) : Prop := x.length ≤ n ∧ OkS x
theorem str_len (x : Str) : x.length = x.cps.toList.length := by rw [Array.length_toList]; rfl
theorem app_cps (x y : Str) : (x ++ y).cps.toList = x.cps.toList ++ y.cps.toList := by
  show (x.cps ++ y.cps).toList = _
  rw [Array.toList_append]
theorem app_len (x y : Str) : (x ++ y).length = x.length + y.length := by rw [str_len, str_len, str_len, app_cps, List.length_append]
theorem Wd.app {a b : Nat} {x y : Str} (hx : Wd a x) (hy : Wd b y) : Wd (a + b) (x ++ y) := ⟨by rw [app_len]; exact Nat.add_le_add hx.1 hy.1, fun c hc => by
  rw [app_cps] at hc
  rcases List.mem_append.mp hc with h | h
  · exact hx.2 c h
  · exact hy.2 c h⟩
theorem Wd.sign {a : Nat} {x : Str} (hx : Wd a x) {c : Nat} (hc : c ∈ x.cps.toList) : Wd 1 ⟨#[c]⟩ := ⟨Nat.le_refl 1, fun d hd => by
  have : d = c := by simpa using hd
  subst this
  exact hx.2 _ hc⟩
theorem Wd.le {a b : Nat} {x : Str} (hx : Wd a x) (h : a ≤ b) : Wd b x := ⟨Nat.le_trans hx.1 h, hx.2⟩
theorem joinL_nil : ∀ ps : List (List Nat), TL.joinL [] ps = ps.flatten
  | [] => rfl
  | [p] => by simp [TL.joinL]
  | p :: q :: r => by simp [TL.joinL, joinL_nil (q :: r)]
theorem join_cps (ys : List Str) : (Txt.join (Str.ofString "") ys).cps.toList = (ys.map fun y => y.cps.toList).flatten := by
  have e : Txt.join (Str.ofString "") ys = Str.join (Str.ofString "") ys := StrLaws.glued_eq_join _ _
  rw [e]
  exact (TL.tl_join _ _).trans (joinL_nil _)
theorem Wd.join : ∀ {ys : List Str}, (∀ y ∈ ys, Wd 1 y) → Wd ys.length (Txt.join (Str.ofString "") ys) := fun {ys} h => by
  constructor
  · rw [str_len, join_cps]
    induction ys with
    | nil => simp
    | cons y ys ih =>
      have h1 := (h y List.mem_cons_self).1
      have h2 := ih fun z hz => h z (List.mem_cons_of_mem _ hz)
      rw [str_len] at h1
      simp only [List.map_cons, List.flatten_cons, List.length_append, List.length_cons]
      omega
  · intro c hc
    rw [join_cps] at hc
    obtain ⟨l, hl, hc⟩ := List.mem_flatten.mp hc
    obtain ⟨y, hy, rfl⟩ := List.mem_map.mp hl
    exact (h y hy).2 c hc
theorem lt_len : (Str.ofString "abcdefghijklmnopqrstuvwxyz").length = 26 := by decide +kernel
def Wds (n : Nat) (l : List D) : Prop := ∃ ns : List Str, l = ns.map .str ∧ ∀ x ∈ ns, Wd n x
theorem Wds.app {n : Nat} {l m : List D} (hl : Wds n l) (hm : Wds n m) : Wds n (l ++ m) := by
  obtain ⟨a, rfl, ha⟩ := hl
  obtain ⟨b, rfl, hb⟩ := hm
  refine ⟨a ++ b, by simp, fun x hx => ?_⟩
  rcases List.mem_append.mp hx with h | h
  · exact ha x h
  · exact hb x h
theorem Wds.one {n : Nat} {x : Str} (h : Wd n x) : Wds n [.str x] := ⟨[x], rfl, fun y hy => by rw [List.mem_singleton.mp hy]; exact h⟩
/-! machines -/
def InL (n : Int) (l : List D) : Prop := ∀ d ∈ l, ∃ v, d = .int v ∧ 0 ≤ v ∧ v < n
theorem InL.nil (n : Int) : InL n [] := fun d hd => by simp at hd
theorem InL.app {n : Int} {l : List D} {v : Int} (h : InL n l) (h0 : 0 ≤ v) (h1 : v < n) : InL n (l ++ [.int v]) := fun d hd => by
  rcases List.mem_append.mp hd with q | q
  · exact h d q
  · exact ⟨v, List.mem_singleton.mp q, h0, h1⟩
theorem InL.of {n : Int} {ys : List D} (h : ∀ (i : Nat) y, ys[i]? = some y → ∃ v, y = .int v ∧ 0 ≤ v ∧ v < n) : InL n ys := fun d hd => by
  obtain ⟨k, hk⟩ := List.getElem?_of_mem hd
  exact h k d hk
theorem br_mid {p : Prop} {oa ob : Out} {N T B C E} (mid : SP) (q : Br p (OS oa mid T B C E) (OS ob mid T B C E)) (k : ∀ ρ h, mid ρ h → N ρ h) : Br p (OS oa N T B C E) (OS ob N T B C E) :=
  ⟨fun n => (q.1 n).mono k (fun _ _ z => z) (fun _ _ z => z) (fun _ _ z => z) fun _ _ _ _ z => z, fun n => (q.2 n).mono k (fun _ _ z => z) (fun _ _ z => z) (fun _ _ z => z) fun _ _ _ _ z => z⟩
structure Mach (F N S T K : List D) (m : Int) : Prop where
  m1 : 1 ≤ m
  fs : Wds 20 F
  fl : F.length ≤ 9
  ns : Wds 20 N
  nl : N.length ≤ 9
  ss : InL m S
  sl : S.length = N.length + 1
  tl : (T.length : Int) = m
  ts : ∀ r ∈ T, ∃ l, r = .tup l ∧ (l.length : Int) = m ∧ InL m l
  kl : (K.length : Int) = m
  ks : InL (2 ^ F.length) K
end Mi

namespace Mi
open PySem L2
end Mi

namespace Mi
open PySem L2
local macro_rules | `(tactic| walk_at "gl") => `(tactic| first
  | assumption
  | (refine Own.atL (h0 := ?_) (L := ?_) ?_ 0 ?_; rotate_left; rotate_left; assumption; rfl)
  | (refine Own.atL (h0 := ?_) (L := ?_) ?_ 1 ?_; rotate_left; rotate_left; assumption; rfl)
  | (refine Own.atL (h0 := ?_) (L := ?_) ?_ 2 ?_; rotate_left; rotate_left; assumption; rfl)
  | (refine Own.atL (h0 := ?_) (L := ?_) ?_ 3 ?_; rotate_left; rotate_left; assumption; rfl)
  | (refine Own.atL (h0 := ?_) (L := ?_) ?_ 4 ?_; rotate_left; rotate_left; assumption; rfl)
  | (refine Own.atL (h0 := ?_) (L := ?_) ?_ 5 ?_; rotate_left; rotate_left; assumption; rfl)
  | (refine Own.atL (h0 := ?_) (L := ?_) ?_ 6 ?_; rotate_left; rotate_left; assumption; rfl)
  | (refine Own.atL (h0 := ?_) (L := ?_) ?_ 7 ?_; rotate_left; rotate_left; assumption; rfl)
  | (refine Own.atL (h0 := ?_) (L := ?_) ?_ 8 ?_; rotate_left; rotate_left; assumption; rfl)
  | (refine Own.atL (h0 := ?_) (L := ?_) ?_ 9 ?_; rotate_left; rotate_left; assumption; rfl)
  | (refine Own.getL (h0 := ?_) (L := ?_) ?_ ?_; rotate_left; rotate_left; assumption; assumption))
local macro_rules | `(tactic| walk_at "il") => `(tactic| first
  | (refine Own.isL (h0 := ?_) (L := ?_) (l := ?_) ?_ 0 ?_; rotate_left; rotate_left; rotate_left; assumption; rfl)
  | (refine Own.isL (h0 := ?_) (L := ?_) (l := ?_) ?_ 1 ?_; rotate_left; rotate_left; rotate_left; assumption; rfl)
  | (refine Own.isL (h0 := ?_) (L := ?_) (l := ?_) ?_ 2 ?_; rotate_left; rotate_left; rotate_left; assumption; rfl)
  | (refine Own.isL (h0 := ?_) (L := ?_) (l := ?_) ?_ 3 ?_; rotate_left; rotate_left; rotate_left; assumption; rfl)
  | (refine Own.isL (h0 := ?_) (L := ?_) (l := ?_) ?_ 4 ?_; rotate_left; rotate_left; rotate_left; assumption; rfl)
  | (refine Own.isL (h0 := ?_) (L := ?_) (l := ?_) ?_ 5 ?_; rotate_left; rotate_left; rotate_left; assumption; rfl)
  | (refine Own.isL (h0 := ?_) (L := ?_) (l := ?_) ?_ 6 ?_; rotate_left; rotate_left; rotate_left; assumption; rfl)
  | (refine Own.isL (h0 := ?_) (L := ?_) (l := ?_) ?_ 7 ?_; rotate_left; rotate_left; rotate_left; assumption; rfl)
  | (refine Own.isL (h0 := ?_) (L := ?_) (l := ?_) ?_ 8 ?_; rotate_left; rotate_left; rotate_left; assumption; rfl)
  | (refine Own.isL (h0 := ?_) (L := ?_) (l := ?_) ?_ 9 ?_; rotate_left; rotate_left; rotate_left; assumption; rfl))
local macro_rules | `(tactic| walk_at "bd") => `(tactic| first | assumption | omega | (simp; done) | (simp; omega) | (simp [*]; done) | (simp [*]; omega))
local macro_rules | `(tactic| walk_at "w") => `(tactic| first
  | with_reducible refine w_seq ?_
  | with_reducible refine w_asg ?_
  | with_reducible refine w_cons ?_
  | with_reducible refine w_nil ?_
  | with_reducible refine w_c ?_
  | ((with_reducible refine w_var (d := ?_) ?_ ?_); rotate_left; rfl)
  | with_reducible refine w_bin ?_
  | with_reducible refine w_call ?_
  | with_reducible refine w_if ?_
  | with_reducible refine w_B ?_
  | with_reducible refine w_unB ?_
  | with_reducible refine w_ret ?_
  | with_reducible refine w_drop ?_
  | with_reducible refine w_skip ?_
  | with_reducible refine w_eq (dAdd_int _ _ _) ?_
  | with_reducible refine w_eq (dSub_int _ _ _) ?_
  | with_reducible refine w_eq (dEq_int _ _ _) ?_
  | with_reducible refine w_eq (dEq_str _ _ _) ?_
  | with_reducible refine w_eq (dNe_strs _ _ _) ?_
  | with_reducible refine w_eq (dEq_bls _ _ _) ?_
  | with_reducible refine w_eq (dNe_bls _ _ _) ?_
  | with_reducible refine w_eq (dLt_int _ _ _) ?_
  | with_reducible refine w_eq (dLe_int _ _ _) ?_
  | with_reducible refine w_eq (dGt_int _ _ _) ?_
  | with_reducible refine w_eq (dGe_int _ _ _) ?_
  | with_reducible refine w_eq (dNe_int _ _ _) ?_
  | ((with_reducible refine w_mod ?_ ?_); (first | assumption | decide | omega))
  | ((with_reducible refine w_fdiv ?_ ?_); (first | assumption | decide | omega))
  | ((with_reducible refine w_mulS ?_ ?_); (first | decide | omega))
  | ((with_reducible refine w_addS ?_ ?_); (first | assumption | decide | omega))
  | ((with_reducible refine w_lenS ?_ ?_); (first | assumption | decide | omega))
  | ((with_reducible refine w_slS ?_ ?_); (first | assumption | decide | omega))
  | with_reducible refine w_lenTm ?_
  | with_reducible refine w_eq (dLen_tup _ _) ?_
  | with_reducible refine w_eq (dSl_tup _ _ _ _) ?_
  | with_reducible refine w_eq (dMax_ev _ _ _) ?_
  | with_reducible refine w_eq (dMin_ev _ _ _) ?_
  | with_reducible refine w_eq (dAbs_ev _ _) ?_
  | with_reducible refine w_not ?_
  | with_reducible refine w_and ?_
  | with_reducible refine w_or ?_
  | with_reducible refine br_n ?_
  | with_reducible refine br_tt ?_
  | with_reducible refine br_ff ?_
  | ((with_reducible refine br_dt ?_ ?_); (first | assumption | omega | rfl))
  | ((with_reducible refine br_df ?_ ?_); (first | assumption | omega))
  | with_reducible refine w_tup ?_
  | ((with_reducible refine w_toTup ?_ ?_); exact (by simp))
  | with_reducible refine w_lst ?_
  | with_reducible refine w_lc ?_
  | with_reducible refine w_for ?_
  | with_reducible refine w_range1 ?_
  | with_reducible refine w_range2 ?_
  | ((with_reducible refine w_dR1 ?_ ?_); (first | decide | omega))
  | ((with_reducible refine w_dR2 ?_ ?_); (first | decide | omega))
  | with_reducible refine w_iter ?_
  | with_reducible refine w_eq (iter1_tup _ _) ?_
  | with_reducible refine w_eq (iter1_str _ _) ?_
  | with_reducible refine w_sl ?_
  | with_reducible refine w_no ?_
  | with_reducible refine w_some ?_
  | with_reducible refine w_unI ?_
  | with_reducible refine w_meth ?_
  | with_reducible refine w_isi ?_
  | with_reducible refine w_zip ?_
  | with_reducible refine w_ifE ?_
  | with_reducible refine w_andV ?_
  | with_reducible refine w_orV ?_
  | with_reducible refine w_notV ?_
  | with_reducible refine w_andK ?_
  | with_reducible refine w_orK ?_
  | with_reducible refine w_notK ?_
  | with_reducible refine w_revL ?_
  | with_reducible refine w_listRg1 ?_
  | with_reducible refine w_tindex ?_
  | with_reducible refine w_setIx ?_
  | with_reducible refine w_un ?_
  | with_reducible refine w_rev1 ?_
  | with_reducible refine w_rev2 ?_
  | with_reducible refine w_chain ?_
  | with_reducible refine w_chK ?_
  | with_reducible refine w_retN ?_
  | with_reducible refine w_brk ?_
  | with_reducible refine w_cont ?_
  | with_reducible refine w_asgT ?_
  | with_reducible refine w_eq (isi_str_str _ _) ?_
  | with_reducible refine w_eq (isi_int_int _ _) ?_
  | with_reducible refine w_eq (isi_tup_tup _ _) ?_
  | with_reducible refine w_eq (isi_bool_int _ _) ?_
  | with_reducible refine w_eq (isi_str_int _ _) ?_
  | ((with_reducible refine w_lenLm (α := ?_) (f := ?_) (l := ?_) ?_ ?_); rotate_left; rotate_left; rotate_left; walk_at "gl")
  | ((with_reducible refine w_lenL (l := ?_) ?_ ?_); rotate_left; walk_at "gl")
  | ((with_reducible refine w_iterL (l := ?_) ?_ ?_); rotate_left; walk_at "gl"; dsimp only)
  | ((with_reducible refine w_tupL (l := ?_) ?_ ?_); rotate_left; walk_at "gl")
  | ((with_reducible refine w_ixT (d := ?_) ?_ ?_); rotate_left; (first | with_reducible assumption | rfl))
  | ((with_reducible refine w_ixL (l := ?_) (d := ?_) ?_ ?_ ?_); rotate_left; rotate_left; walk_at "gl"; (first | with_reducible assumption | rfl))
  | ((with_reducible refine w_addT ?_ ?_); walk_at "bd")
  | ((with_reducible refine ⟨?_, ?_⟩); (with_reducible (show isListD (.ref _) _ = true)); walk_at "il")
  | with_reducible refine w_tryK ?_
  | with_reducible refine w_raise ?_
  | with_reducible refine w_raise0 ?_
  | with_reducible refine w_isX ?_
  | ((with_reducible refine w_isXK (k := ?_) ?_ ?_); rotate_left; (first | with_reducible exact lkA | (apply lkB; decide +kernel; exact lkA) | (apply lkB; decide +kernel; apply lkB; decide +kernel; exact lkA) | (apply lkB; decide +kernel; apply lkB; decide +kernel; apply lkB; decide +kernel; exact lkA)))
  | with_reducible refine w_xf ?_
  | ((with_reducible refine w_xfK ?_ ?_ ?_); (exact List.mem_cons_self); (decide))
  | with_reducible refine w_eq (isN_xo _) ?_
  | with_reducible refine w_eq (dNeg_int _ _) ?_)
local macro_rules | `(tactic| walk_at "go") => `(tactic| (repeat (walk_at "w")); try dsimp only [List.set])
local macro_rules | `(tactic| walk_at "fn") => `(tactic| ((refine w_fun ?_); simp only [startD, List.map_cons, List.map_nil, List.reduceReplicate, Nat.reduceSub, List.cons_append, List.nil_append]; walk_at "go"))
/-! ### cells, names, parents -/
def CellP (c : Int) : Prop := Cell c ∧ 0 ≤ c
theorem ints_all {S : Int → Prop} : ∀ {ys : List D}, (∀ (i : Nat) y, ys[i]? = some y → ∃ c, y = .int c ∧ S c) → ∃ cs : List Int, ys = cs.map .int ∧ ∀ c ∈ cs, S c
  | [], _ => ⟨[], rfl, fun c hc => by simp at hc⟩
  | y :: ys, h => by
    obtain ⟨c, rfl, hc⟩ := h 0 y rfl
    obtain ⟨cs, rfl, hcs⟩ := ints_all (ys := ys) fun i z e => h (i + 1) z (by simpa using e)
    exact ⟨c :: cs, rfl, fun d hd => by
      rcases List.mem_cons.mp hd with rfl | q
      · exact hc
      · exact hcs d q⟩
theorem mem_app {α : Type} {S : α → Prop} {l : List α} {x : α} (h : ∀ a ∈ l, S a) (hx : S x) : ∀ a ∈ l ++ [x], S a := fun a ha => by
  rcases List.mem_append.mp ha with q | q
  · exact h a q
  · rw [List.mem_singleton.mp q]; exact hx
theorem map_app1 {α β : Type} (f : α → β) (l : List α) (x : α) : l.map f ++ [f x] = (l ++ [x]).map f := by simp
/-! names -/
def Ltr (c : Nat) : Prop := 97 ≤ c ∧ c ≤ 122
def Nm (x : Str) : Prop := 1 ≤ x.length ∧ x.length ≤ 8 ∧ ∀ c ∈ x.cps.toList, Ltr c
def Ls (n : Nat) (x : Str) : Prop := x.length = n ∧ ∀ c ∈ x.cps.toList, Ltr c
theorem Ls.app {a b : Nat} {x y : Str} (hx : Ls a x) (hy : Ls b y) : Ls (a + b) (x ++ y) := ⟨by rw [app_len, hx.1, hy.1], fun c hc => by
  rw [app_cps] at hc
  rcases List.mem_append.mp hc with q | q
  · exact hx.2 c q
  · exact hy.2 c q⟩
theorem Ls.nm {n : Nat} {x : Str} (h : Ls n x) (h1 : 1 ≤ n) (h8 : n ≤ 8) : Nm x := ⟨by rw [h.1]; exact h1, by rw [h.1]; exact h8, h.2⟩
theorem w_addLs {a b : Nat} {x y : Str} {h : MH} {Q : D → MH → Prop} {E : XE} (hx : Ls a x) (hy : Ls b y) (c : a + b ≤ 1000) (q : Ls (a + b) (x ++ y) → Q (.str (x ++ y)) h) : Sat (dAdd (.str x) (.str y) h) Q E :=
  w_addS (by rw [hx.1, hy.1]; omega) (q (hx.app hy))
theorem emp_cps : (Str.ofString "").cps.toList = [] := by decide +kernel
/-! parents -/
def Par (ps : List Int) : Prop := ps[0]? = some 0 ∧ ∀ (k : Nat) p, 0 < k → ps[k]? = some p → 0 ≤ p ∧ p < (k : Int)
theorem Par.app {ps : List Int} {p : Int} (h : Par ps) (hl : 0 < ps.length) (h0 : 0 ≤ p) (h1 : p < (ps.length : Int)) : Par (ps ++ [p]) := ⟨by rw [List.getElem?_append_left hl]; exact h.1, fun k q hk e => by
  rcases Nat.lt_or_ge k ps.length with z | z
  · rw [List.getElem?_append_left z] at e
    exact h.2 k q hk e
  · rw [List.getElem?_append_right z] at e
    have : k - ps.length = 0 := by
      have := (List.getElem?_eq_some_iff.mp e).1
      simp at this; omega
    rw [this] at e
    simp at e
    omega⟩
/-! ### documents -/
inductive Doc where
  | mk (x : Str) (ks : List Doc)
def Doc.nm : Doc → Str
  | .mk x _ => x
def Doc.ks : Doc → List Doc
  | .mk _ l => l
mutual
def Doc.toD : Doc → D
  | .mk x l => .tup [.str x, .tup (Doc.toDs l)]
def Doc.toDs : List Doc → List D
  | [] => []
  | d :: l => d.toD :: Doc.toDs l
end
def Doc.ok : Nat → Doc → Prop
  | 0, _ => False
  | n + 1, .mk x l => Nm x ∧ l.length ≤ 1000 ∧ ∀ k ∈ l, k.ok n
def Doc.at : Doc → List Int → Option Doc
  | d, [] => some d
  | d, k :: r => if 0 ≤ k then match d.ks[k.toNat]? with
    | some c => c.at r
    | none => none else none
theorem at_app : ∀ (d : Doc) (a b : List Int), d.at (a ++ b) = (d.at a).bind fun c => c.at b
  | d, [], b => by simp [Doc.at]
  | d, k :: r, b => by
    rw [List.cons_append, Doc.at, Doc.at]
    split
    · split
      · rename_i c e
        exact at_app c r b
      · rfl
    · rfl
theorem at_one (d : Doc) (k : Int) : d.at [k] = if 0 ≤ k then d.ks[k.toNat]? else none := by
  rw [Doc.at]
  split
  · split
    · rename_i c e; rw [e, Doc.at]
    · rename_i e; rw [e]
  · rfl
/-- the children of the k-th -/
def isKid (pn : Nat → Nat) (k j : Nat) : Bool := decide (0 < j ∧ pn j = k)
def kids (pn : Nat → Nat) (n k : Nat) : List Nat := (List.range n).filter (isKid pn k)
def kidsF (pn : Nat → Nat) (n m k : Nat) : List Nat := (List.range' m (n - m)).filter (isKid pn k)
def cntF (pn : Nat → Nat) (k p : Nat) : Nat := ((List.range k).filter (isKid pn p)).length
def PnOk (pn : Nat → Nat) (n : Nat) : Prop := ∀ j, 0 < j → j < n → pn j < j
theorem kids_mem {pn : Nat → Nat} {n k j : Nat} (h : j ∈ kids pn n k) : j < n ∧ 0 < j ∧ pn j = k := by
  unfold kids at h
  rw [List.mem_filter, List.mem_range] at h
  exact ⟨h.1, of_decide_eq_true h.2⟩
theorem range_cut {k n : Nat} (h : k ≤ n) : List.range n = List.range k ++ List.range' k (n - k) := by
  have e : n = k + (n - k) := by omega
  rw [List.range_eq_range', List.range_eq_range']
  have := List.range'_append_1 (s := 0) (m := k) (n := n - k)
  rw [Nat.zero_add, ← e] at this
  exact this.symm
theorem kid_at {pn : Nat → Nat} {n k : Nat} (h0 : 0 < k) (h1 : k < n) : (kids pn n (pn k))[cntF pn k (pn k)]? = some k := by
  unfold kids cntF
  rw [range_cut (Nat.le_of_lt h1), List.filter_append, List.getElem?_append_right (Nat.le_refl _), Nat.sub_self]
  have e : n - k = (n - (k + 1)) + 1 := by omega
  have t : isKid pn (pn k) k = true := by unfold isKid; simp [h0]
  rw [e, List.range'_succ, List.filter_cons, if_pos t]
  rfl
theorem cnt_le {pn : Nat → Nat} {k p : Nat} : cntF pn k p ≤ k := by
  unfold cntF
  have := List.length_filter_le (isKid pn p) (List.range k)
  simpa using this
theorem kids_len {pn : Nat → Nat} {n k : Nat} : (kids pn n k).length ≤ n := cnt_le
/-- documents by their children -/
def DocsF (pn : Nat → Nat) (n m : Nat) (f : Nat → Doc) : Prop := ∀ j, m ≤ j → j < n → ∃ x, Nm x ∧ f j = .mk x ((kids pn n j).map f)
theorem DocsF.put {pn : Nat → Nat} {n m : Nat} {f : Nat → Doc} (hp : PnOk pn n) (h : DocsF pn n (m + 1) f) {x : Str} (hx : Nm x) : DocsF pn n m (fun i => if i = m then .mk x ((kids pn n m).map f) else f i) := fun j h1 h2 => by
  have key : (kids pn n j).map (fun i => if i = m then .mk x ((kids pn n m).map f) else f i) = (kids pn n j).map f := by
    refine List.map_congr_left fun i hi => ?_
    obtain ⟨a, b, c⟩ := kids_mem hi
    have := hp i b a
    rw [if_neg (by omega)]
  by_cases e : j = m
  · subst e
    rw [key]
    dsimp only
    rw [if_pos rfl]
    exact ⟨x, hx, rfl⟩
  · rw [key]
    dsimp only
    rw [if_neg e]
    exact h j (by omega) h2
theorem DocsF.ok {pn : Nat → Nat} {n : Nat} {f : Nat → Doc} (hp : PnOk pn n) (hn : n ≤ 1000) (h : DocsF pn n 0 f) : ∀ (t j : Nat), n ≤ j + t → j < n → (f j).ok t
  | 0, j, h1, h2 => by omega
  | t + 1, j, h1, h2 => by
    obtain ⟨x, hx, e⟩ := h j (Nat.zero_le _) h2
    rw [e]
    refine ⟨hx, ?_, ?_⟩
    · rw [List.length_map]
      exact Nat.le_trans kids_len hn
    · intro k hk
      obtain ⟨i, hi, rfl⟩ := List.mem_map.mp hk
      obtain ⟨a, b, c⟩ := kids_mem hi
      have := hp i b a
      exact DocsF.ok hp hn h t i (by omega) a
/-- places -/
def PlF (pn : Nat → Nat) (n : Nat) (q : Nat → List Int) : Prop := q 0 = [] ∧ ∀ k, 0 < k → k < n → q k = q (pn k) ++ [(cntF pn k (pn k) : Int)]
theorem PlF.put {pn : Nat → Nat} {n : Nat} {q : Nat → List Int} (hp : PnOk pn (n + 1)) (hn : 0 < n) (h : PlF pn n q) : PlF pn (n + 1) (fun i => if i = n then q (pn n) ++ [(cntF pn n (pn n) : Int)] else q i) := ⟨by dsimp only; rw [if_neg (by omega)]; exact h.1, fun k h0 h1 => by
  dsimp only
  have := hp k h0 h1
  by_cases e : k = n
  · subst e
    rw [if_pos rfl, if_neg (by omega)]
  · rw [if_neg e, if_neg (by omega)]
    exact h.2 k h0 (by omega)⟩
theorem stands {pn : Nat → Nat} {n : Nat} {f : Nat → Doc} {q : Nat → List Int} (hp : PnOk pn n) (hf : DocsF pn n 0 f) (hq : PlF pn n q) : ∀ (m k : Nat), k ≤ m → k < n → (f 0).at (q k) = some (f k)
  | 0, k, h1, h2 => by
    have : k = 0 := by omega
    subst this
    rw [hq.1, Doc.at]
  | m + 1, k, h1, h2 => by
    by_cases h0 : k = 0
    · subst h0
      rw [hq.1, Doc.at]
    · have hk := hp k (by omega) h2
      rw [hq.2 k (by omega) h2, at_app, stands hp hf hq m (pn k) (by omega) (by omega), Option.bind_some, at_one, if_pos (by omega)]
      obtain ⟨x, _, e⟩ := hf (pn k) (Nat.zero_le _) (by omega)
      rw [e]
      show ((kids pn n (pn k)).map f)[((cntF pn k (pn k) : Nat) : Int).toNat]? = some (f k)
      rw [Int.toNat_natCast, List.getElem?_map, kid_at (by omega) h2]
      rfl
end Mi

namespace Mi
open PySem L2
local macro_rules | `(tactic| walk_at "gl") => `(tactic| first
  | assumption
  | (refine Own.atL (h0 := ?_) (L := ?_) ?_ 0 ?_; rotate_left; rotate_left; assumption; rfl)
  | (refine Own.atL (h0 := ?_) (L := ?_) ?_ 1 ?_; rotate_left; rotate_left; assumption; rfl)
  | (refine Own.atL (h0 := ?_) (L := ?_) ?_ 2 ?_; rotate_left; rotate_left; assumption; rfl)
  | (refine Own.atL (h0 := ?_) (L := ?_) ?_ 3 ?_; rotate_left; rotate_left; assumption; rfl)
  | (refine Own.atL (h0 := ?_) (L := ?_) ?_ 4 ?_; rotate_left; rotate_left; assumption; rfl)
  | (refine Own.atL (h0 := ?_) (L := ?_) ?_ 5 ?_; rotate_left; rotate_left; assumption; rfl)
  | (refine Own.atL (h0 := ?_) (L := ?_) ?_ 6 ?_; rotate_left; rotate_left; assumption; rfl)
  | (refine Own.atL (h0 := ?_) (L := ?_) ?_ 7 ?_; rotate_left; rotate_left; assumption; rfl)
  | (refine Own.atL (h0 := ?_) (L := ?_) ?_ 8 ?_; rotate_left; rotate_left; assumption; rfl)
  | (refine Own.atL (h0 := ?_) (L := ?_) ?_ 9 ?_; rotate_left; rotate_left; assumption; rfl)
  | (refine Own.getL (h0 := ?_) (L := ?_) ?_ ?_; rotate_left; rotate_left; assumption; assumption))
local macro_rules | `(tactic| walk_at "il") => `(tactic| first
  | (refine Own.isL (h0 := ?_) (L := ?_) (l := ?_) ?_ 0 ?_; rotate_left; rotate_left; rotate_left; assumption; rfl)
  | (refine Own.isL (h0 := ?_) (L := ?_) (l := ?_) ?_ 1 ?_; rotate_left; rotate_left; rotate_left; assumption; rfl)
  | (refine Own.isL (h0 := ?_) (L := ?_) (l := ?_) ?_ 2 ?_; rotate_left; rotate_left; rotate_left; assumption; rfl)
  | (refine Own.isL (h0 := ?_) (L := ?_) (l := ?_) ?_ 3 ?_; rotate_left; rotate_left; rotate_left; assumption; rfl)
  | (refine Own.isL (h0 := ?_) (L := ?_) (l := ?_) ?_ 4 ?_; rotate_left; rotate_left; rotate_left; assumption; rfl)
  | (refine Own.isL (h0 := ?_) (L := ?_) (l := ?_) ?_ 5 ?_; rotate_left; rotate_left; rotate_left; assumption; rfl)
  | (refine Own.isL (h0 := ?_) (L := ?_) (l := ?_) ?_ 6 ?_; rotate_left; rotate_left; rotate_left; assumption; rfl)
  | (refine Own.isL (h0 := ?_) (L := ?_) (l := ?_) ?_ 7 ?_; rotate_left; rotate_left; rotate_left; assumption; rfl)
  | (refine Own.isL (h0 := ?_) (L := ?_) (l := ?_) ?_ 8 ?_; rotate_left; rotate_left; rotate_left; assumption; rfl)
  | (refine Own.isL (h0 := ?_) (L := ?_) (l := ?_) ?_ 9 ?_; rotate_left; rotate_left; rotate_left; assumption; rfl))
local macro_rules | `(tactic| walk_at "bd") => `(tactic| first | assumption | omega | (simp; done) | (simp; omega) | (simp [*]; done) | (simp [*]; omega))
local macro_rules | `(tactic| walk_at "w") => `(tactic| first
  | with_reducible refine w_seq ?_
  | with_reducible refine w_asg ?_
  | with_reducible refine w_cons ?_
  | with_reducible refine w_nil ?_
  | with_reducible refine w_c ?_
  | ((with_reducible refine w_var (d := ?_) ?_ ?_); rotate_left; rfl)
  | with_reducible refine w_bin ?_
  | with_reducible refine w_call ?_
  | with_reducible refine w_if ?_
  | with_reducible refine w_B ?_
  | with_reducible refine w_unB ?_
  | with_reducible refine w_ret ?_
  | with_reducible refine w_drop ?_
  | with_reducible refine w_skip ?_
  | with_reducible refine w_eq (dAdd_int _ _ _) ?_
  | with_reducible refine w_eq (dSub_int _ _ _) ?_
  | with_reducible refine w_eq (dEq_int _ _ _) ?_
  | with_reducible refine w_eq (dEq_str _ _ _) ?_
  | with_reducible refine w_eq (dNe_strs _ _ _) ?_
  | with_reducible refine w_eq (dEq_bls _ _ _) ?_
  | with_reducible refine w_eq (dNe_bls _ _ _) ?_
  | with_reducible refine w_eq (dLt_int _ _ _) ?_
  | with_reducible refine w_eq (dLe_int _ _ _) ?_
  | with_reducible refine w_eq (dGt_int _ _ _) ?_
  | with_reducible refine w_eq (dGe_int _ _ _) ?_
  | with_reducible refine w_eq (dNe_int _ _ _) ?_
  | ((with_reducible refine w_mod ?_ ?_); (first | assumption | decide | omega))
  | ((with_reducible refine w_fdiv ?_ ?_); (first | assumption | decide | omega))
  | ((with_reducible refine w_mulS ?_ ?_); (first | decide | omega))
  | ((with_reducible refine w_addS ?_ ?_); (first | assumption | decide | omega))
  | ((with_reducible refine w_lenS ?_ ?_); (first | assumption | decide | omega))
  | ((with_reducible refine w_slS ?_ ?_); (first | assumption | decide | omega))
  | with_reducible refine w_lenTm ?_
  | with_reducible refine w_eq (dLen_tup _ _) ?_
  | with_reducible refine w_eq (dSl_tup _ _ _ _) ?_
  | with_reducible refine w_eq (dMax_ev _ _ _) ?_
  | with_reducible refine w_eq (dMin_ev _ _ _) ?_
  | with_reducible refine w_eq (dAbs_ev _ _) ?_
  | with_reducible refine w_not ?_
  | with_reducible refine w_and ?_
  | with_reducible refine w_or ?_
  | with_reducible refine br_n ?_
  | with_reducible refine br_tt ?_
  | with_reducible refine br_ff ?_
  | ((with_reducible refine br_dt ?_ ?_); (first | assumption | omega | rfl))
  | ((with_reducible refine br_df ?_ ?_); (first | assumption | omega))
  | with_reducible refine w_tup ?_
  | ((with_reducible refine w_toTup ?_ ?_); exact (by simp))
  | with_reducible refine w_lst ?_
  | with_reducible refine w_lc ?_
  | with_reducible refine w_for ?_
  | with_reducible refine w_range1 ?_
  | with_reducible refine w_range2 ?_
  | ((with_reducible refine w_dR1 ?_ ?_); (first | decide | omega))
  | ((with_reducible refine w_dR2 ?_ ?_); (first | decide | omega))
  | with_reducible refine w_iter ?_
  | with_reducible refine w_eq (iter1_tup _ _) ?_
  | with_reducible refine w_eq (iter1_str _ _) ?_
  | with_reducible refine w_sl ?_
  | with_reducible refine w_no ?_
  | with_reducible refine w_some ?_
  | with_reducible refine w_unI ?_
  | with_reducible refine w_meth ?_
  | with_reducible refine w_isi ?_
  | with_reducible refine w_zip ?_
  | with_reducible refine w_ifE ?_
  | with_reducible refine w_andV ?_
  | with_reducible refine w_orV ?_
  | with_reducible refine w_notV ?_
  | with_reducible refine w_andK ?_
  | with_reducible refine w_orK ?_
  | with_reducible refine w_notK ?_
  | with_reducible refine w_revL ?_
  | with_reducible refine w_listRg1 ?_
  | with_reducible refine w_tindex ?_
  | with_reducible refine w_setIx ?_
  | with_reducible refine w_un ?_
  | with_reducible refine w_rev1 ?_
  | with_reducible refine w_rev2 ?_
  | with_reducible refine w_chain ?_
  | with_reducible refine w_chK ?_
  | with_reducible refine w_retN ?_
  | with_reducible refine w_brk ?_
  | with_reducible refine w_cont ?_
  | with_reducible refine w_asgT ?_
  | with_reducible refine w_eq (isi_str_str _ _) ?_
  | with_reducible refine w_eq (isi_int_int _ _) ?_
  | with_reducible refine w_eq (isi_tup_tup _ _) ?_
  | with_reducible refine w_eq (isi_bool_int _ _) ?_
  | with_reducible refine w_eq (isi_str_int _ _) ?_
  | ((with_reducible refine w_lenLm (α := ?_) (f := ?_) (l := ?_) ?_ ?_); rotate_left; rotate_left; rotate_left; walk_at "gl")
  | ((with_reducible refine w_lenL (l := ?_) ?_ ?_); rotate_left; walk_at "gl")
  | ((with_reducible refine w_iterL (l := ?_) ?_ ?_); rotate_left; walk_at "gl"; dsimp only)
  | ((with_reducible refine w_tupL (l := ?_) ?_ ?_); rotate_left; walk_at "gl")
  | ((with_reducible refine w_ixT (d := ?_) ?_ ?_); rotate_left; (first | with_reducible assumption | rfl))
  | ((with_reducible refine w_ixL (l := ?_) (d := ?_) ?_ ?_ ?_); rotate_left; rotate_left; walk_at "gl"; (first | with_reducible assumption | rfl))
  | ((with_reducible refine w_addT ?_ ?_); walk_at "bd")
  | ((with_reducible refine ⟨?_, ?_⟩); (with_reducible (show isListD (.ref _) _ = true)); walk_at "il")
  | with_reducible refine w_tryK ?_
  | with_reducible refine w_raise ?_
  | with_reducible refine w_raise0 ?_
  | with_reducible refine w_isX ?_
  | ((with_reducible refine w_isXK (k := ?_) ?_ ?_); rotate_left; (first | with_reducible exact lkA | (apply lkB; decide +kernel; exact lkA) | (apply lkB; decide +kernel; apply lkB; decide +kernel; exact lkA) | (apply lkB; decide +kernel; apply lkB; decide +kernel; apply lkB; decide +kernel; exact lkA)))
  | with_reducible refine w_xf ?_
  | ((with_reducible refine w_xfK ?_ ?_ ?_); (exact List.mem_cons_self); (decide))
  | with_reducible refine w_eq (isN_xo _) ?_
  | with_reducible refine w_eq (dNeg_int _ _) ?_)
local macro_rules | `(tactic| walk_at "go") => `(tactic| (repeat (walk_at "w")); try dsimp only [List.set])
local macro_rules | `(tactic| walk_at "fn") => `(tactic| ((refine w_fun ?_); simp only [startD, List.map_cons, List.map_nil, List.reduceReplicate, Nat.reduceSub, List.cons_append, List.nil_append]; walk_at "go"))
/-! names of forms: k11 to k19 -/
theorem inD_strsP {x : Str} {l : List Str} {b : D} {h : MH} (e : seqOf h b = some (l.map .str)) (hb : ∀ z, b ≠ .str z) : inD (.str x) b h = some (decide (x ∈ l)) := by
  have h1 : ((l.map D.str).all flatD) = true := by
    rw [List.all_eq_true]
    intro d hd
    obtain ⟨y, _, rfl⟩ := List.mem_map.mp hd
    rfl
  have h2 : ((l.map D.str).any fun y => eqF y (.str x)) = decide (x ∈ l) := by
    rw [Bool.eq_iff_iff, List.any_eq_true, decide_eq_true_iff]
    constructor
    · rintro ⟨d, hd, e⟩
      obtain ⟨y, hy, rfl⟩ := List.mem_map.mp hd
      have : y = x := by simpa [eqF] using e
      exact this ▸ hy
    · intro hx
      exact ⟨.str x, List.mem_map.mpr ⟨x, hx, rfl⟩, by simp [eqF]⟩
  cases b with
  | str z => exact absurd rfl (hb z)
  | _ => simp only [inD, e, flatD, h1, and_self, if_true, h2]
theorem w_inLsP {x : Str} {l : List Str} {h : MH} {Q : D → MH → Prop} {E : XE} {i : Nat} (e : getL h i = some (l.map .str)) (q : Q (.bl (decide (x ∈ l))) h) : Sat (dIn (.str x) (.ref i) h) Q E := w_eq (by simp only [dIn, inD_strsP (x := x) (l := l) (b := .ref i) (h := h) e (fun z => by simp)]) q
/-- the letter of a number -/
def lt1 (i : Int) : Nat := 97 + (i % 26).toNat
def l1 (i : Int) : Str := ⟨#[lt1 i]⟩
theorem abc_cps : (Str.ofString "abcdefghijklmnopqrstuvwxyz").cps.toList = (List.range 26).map (97 + ·) := by decide +kernel
theorem lt1_ltr (i : Int) : Ltr (lt1 i) := by
  have := mod_in i (n := 26) (by decide)
  unfold Ltr lt1
  omega
theorem l1_ls (i : Int) : Ls 1 (l1 i) := ⟨rfl, fun d hd => by
  have : d = lt1 i := by simpa [l1] using hd
  rw [this]
  exact lt1_ltr i⟩
theorem w_ltr1 {i : Int} {h : MH} {Q : D → MH → Prop} {E : XE} (q : Q (.str (l1 i)) h) : Sat (dIx (.str (Str.ofString "abcdefghijklmnopqrstuvwxyz")) (.int (i % 26)) h) Q E := by
  have hm := mod_in i (n := 26) (by decide)
  obtain ⟨c, e1, e2⟩ := atI_in (l := (Str.ofString "abcdefghijklmnopqrstuvwxyz").cps.toList) hm.1 (by rw [← str_len, lt_len]; exact hm.2)
  rw [abc_cps, List.getElem?_map, List.getElem?_range (by omega)] at e2
  have : c = lt1 i := by
    simp at e2
    rw [← e2]
    rfl
  subst this
  exact w_ixS (by rw [lt_len]; decide) e1 q
theorem l1_inj {i j : Int} (hi : 0 ≤ i ∧ i < 26) (hj : 0 ≤ j ∧ j < 26) (e : l1 i = l1 j) : i = j := by
  have : lt1 i = lt1 j := by
    have := congrArg (fun s : Str => s.cps.toList) e
    simpa [l1] using this
  unfold lt1 at this
  omega
theorem many_l1 {xs : List Str} {j : Nat} (hj : j ≤ 26) (h : ∀ t : Nat, t < j → l1 (t : Int) ∈ xs) : j ≤ xs.length := by
  have hn : ((List.range j).map fun t : Nat => l1 (t : Int)).Nodup := by
    rw [List.nodup_iff_pairwise_ne, List.pairwise_map]
    refine (List.nodup_iff_pairwise_ne.mp (List.nodup_range (n := j))).imp_of_mem fun {a b} ha hb hne e => ?_
    have ha := List.mem_range.mp ha
    have hb := List.mem_range.mp hb
    have := l1_inj (i := (a : Int)) (j := (b : Int)) (by omega) (by omega) e
    omega
  have hs : ((List.range j).map fun t : Nat => l1 (t : Int)) ⊆ xs := fun x hx => by
    obtain ⟨t, ht, rfl⟩ := List.mem_map.mp hx
    exact h t (List.mem_range.mp ht)
  have := hn.length_le_of_subset hs
  simpa using this
theorem n_any {c n : Int} (hn : 0 ≤ n ∧ n ≤ 8) {h : MH} : Sat (m_any_names_23d34 [.int c, .int n] h) (fun d h' => ∃ (i : Nat) (xs : List Str), d = .ref i ∧ Own h h' [(i, xs.map .str)] ∧ (xs.length : Int) = n ∧ xs.Nodup ∧ ∀ x ∈ xs, Nm x) noX := by
  walk_at "fn"
  refine o_new (Own.nil h) (by simp) fun iL h1 o1 => ?_
  walk_at "go"
  refine w_loop0 (fun k ρ h' => ∃ (c : Int) (o4 o5 o6 o7 : Option D) (xs : List Str), ρ = [some (.int c), some (.int n), some (.str (Str.ofString "abcdefghijklmnopqrstuvwxyz")), some (.ref iL), o4, o5, o6, o7] ∧ Own h h' [(iL, xs.map .str)] ∧ xs.length = k ∧ xs.Nodup ∧ ∀ x ∈ xs, Nm x)
    ⟨c, none, none, none, none, [], rfl, o1, rfl, List.nodup_nil, fun x hx => by simp at hx⟩ (fun _ _ _ _ => rfl) ?_ ?_
  · rintro k d ρ h' hd ⟨c, o4, o5, o6, o7, xs, rfl, o, hk, hnd, hnm⟩
    obtain ⟨hk', rfl⟩ := rangeD_get hd
    refine ⟨_, rfl, ?_⟩
    have hm := mod_in c (n := 8) (by decide)
    dsimp only [List.set]
    walk_at "go"
    generalize hsz : 1 + c % 8 = sz at *
    refine w_while (fun m ρ h'' => h'' = h' ∧ ∃ (c : Int) (w : Str) (a : Nat), m = 8 - a ∧ ρ = [some (.int c), some (.int n), some (.str (Str.ofString "abcdefghijklmnopqrstuvwxyz")), some (.ref iL), some (.int (0 + (k : Int))), some (.int sz), some (.str w), o7] ∧ Ls a w ∧ (a : Int) ≤ sz) 8 (by decide) ⟨rfl, c / 8, _, 0, rfl, rfl, ⟨rfl, fun c hc => by rw [emp_cps] at hc; simp at hc⟩, by omega⟩ ?_
    rintro m ρ h'' ⟨rfl, c2, w, a, rfl, rfl, hw, ha⟩
    walk_at "go"
    refine w_lenS (by rw [hw.1]; omega) ?_
    walk_at "go"
    rw [hw.1]
    refine br_d (fun q => ?_) (fun q => ?_)
    · walk_at "go"
      refine w_ltr1 ?_
      refine w_addLs hw (l1_ls _) (by omega) fun hxz => ?_
      walk_at "go"
      exact ⟨8 - (a + 1), by omega, rfl, _, _, a + 1, rfl, rfl, hxz, by omega⟩
    have hwn : Nm w := hw.nm (by omega) (by omega)
    walk_at "go"
    refine w_while (fun m ρ h3 => h3 = h'' ∧ ∃ (w : Str) (j : Nat), m = xs.length + 2 - j ∧ ρ = [some (.int c2), some (.int n), some (.str (Str.ofString "abcdefghijklmnopqrstuvwxyz")), some (.ref iL), some (.int (0 + (k : Int))), some (.int sz), some (.str w), some (.int (j : Int))] ∧ Nm w ∧ j ≤ xs.length + 1 ∧ (∀ t : Nat, t + 1 < j → l1 (t : Int) ∈ xs) ∧ (1 ≤ j → w = l1 ((j : Int) - 1))) (xs.length + 2) (by omega) ⟨rfl, w, 0, rfl, rfl, hwn, by omega, fun t ht => by omega, fun z => by omega⟩ ?_
    rintro m ρ h3 ⟨rfl, w, j, rfl, rfl, hw2, hj, hall, hlast⟩
    walk_at "go"
    refine w_inLsP (o.atL 0 rfl) ?_
    walk_at "go"
    refine br_d (fun q => ?_) (fun q => ?_)
    · have hj2 : j ≤ xs.length := many_l1 (by omega) fun t ht => by
        by_cases z : t + 1 < j
        · exact hall t z
        · have : (j : Int) - 1 = (t : Int) := by omega
          rw [← this, ← hlast (by omega)]
          exact q
      walk_at "go"
      refine w_ltr1 ?_
      walk_at "go"
      refine w_eq (by rw [dMul_str, if_pos ⟨by omega, by omega, by rw [show (l1 (j : Int)).length = 1 from rfl]; omega⟩]) ?_
      have e1 : Txt.mul (l1 (j : Int)) (1 + (j : Int) / 26) = l1 (j : Int) := by
        have : (1 : Int) + (j : Int) / 26 = 1 := by omega
        rw [this]
        rfl
      rw [e1]
      walk_at "go"
      exact ⟨xs.length + 2 - (j + 1), by omega, rfl, l1 (j : Int), j + 1, rfl, by simp, (l1_ls _).nm (by decide) (by decide), by omega, fun t ht => by
        by_cases z : t + 1 < j
        · exact hall t z
        · have : (j : Int) - 1 = (t : Int) := by omega
          rw [← this, ← hlast (by omega)]
          exact q, fun _ => by simp⟩
    · walk_at "go"
      refine o_app o 0 rfl (by simp; omega) fun h5 o5 => ?_
      rw [List.set_cons_zero, map_app1] at o5
      exact ⟨_, _, _, _, _, _, rfl, o5, by simp [hk], by
        rw [List.nodup_append]
        exact ⟨hnd, by simp, fun a ha b hb => by rw [List.mem_singleton.mp hb]; rintro rfl; exact q ha⟩, mem_app hnm hw2⟩
  · rintro ρ h' ⟨c, o4, o5, o6, o7, xs, rfl, o, hk, hnd, hnm⟩
    rw [rangeD_length] at hk
    walk_at "go"
    exact ⟨iL, xs, rfl, o, by omega, hnd, hnm⟩
theorem cutP_to {T : Str} {a : Int} (h0 : 0 ≤ a) : (cutS T none (some a)).cps.toList = T.cps.toList.take a.toNat := by
  obtain ⟨k, rfl⟩ := Int.eq_ofNat_of_zero_le h0
  rw [Int.toNat_natCast]
  unfold cutS
  rw [HT.sIx_none, HT.sIx_nat, List.drop_zero, Nat.sub_zero, str_len]
  rcases Nat.lt_or_ge k T.cps.toList.length with z | z
  · rw [Nat.min_eq_left (Nat.le_of_lt z)]
  · rw [Nat.min_eq_right z, List.take_length, List.take_of_length_le z]
theorem cutP_from {T : Str} {a : Int} (h0 : 0 ≤ a) : (cutS T (some a) none).cps.toList = T.cps.toList.drop a.toNat := by
  obtain ⟨k, rfl⟩ := Int.eq_ofNat_of_zero_le h0
  rw [Int.toNat_natCast]
  unfold cutS
  rw [HT.sIx_none, HT.sIx_nat, str_len]
  rcases Nat.lt_or_ge k T.cps.toList.length with z | z
  · rw [Nat.min_eq_left (Nat.le_of_lt z), List.take_of_length_le (by simp)]
  · rw [Nat.min_eq_right z, List.drop_of_length_le z, List.drop_length, List.take_nil]
theorem Ls.to {n : Nat} {x : Str} (hx : Ls n x) {a : Int} (h0 : 0 ≤ a) (h1 : a ≤ n) : Ls a.toNat (cutS x none (some a)) := by
  have hl := hx.1
  rw [str_len] at hl
  refine ⟨?_, fun c hc => ?_⟩
  · rw [str_len, cutP_to h0, List.length_take, hl]
    omega
  · rw [cutP_to h0] at hc
    exact hx.2 c (List.mem_of_mem_take hc)
theorem Ls.from {n : Nat} {x : Str} (hx : Ls n x) {a : Int} (h0 : 0 ≤ a) (h1 : a ≤ n) : Ls (n - a.toNat) (cutS x (some a) none) := by
  have hl := hx.1
  rw [str_len] at hl
  refine ⟨?_, fun c hc => ?_⟩
  · rw [str_len, cutP_from h0, List.length_drop, hl]
  · rw [cutP_from h0] at hc
    exact hx.2 c (List.mem_of_mem_drop hc)
theorem Ls.join {ys : List Str} (h : ∀ y ∈ ys, Ls 1 y) : Ls ys.length (Txt.join (Str.ofString "") ys) := by
  refine ⟨?_, fun c hc => ?_⟩
  · rw [str_len, join_cps]
    induction ys with
    | nil => rfl
    | cons y ys ih =>
      have h1 := (h y List.mem_cons_self).1
      have h2 := ih fun z hz => h z (List.mem_cons_of_mem _ hz)
      rw [str_len] at h1
      rw [List.map_cons, List.flatten_cons, List.length_append, h1, h2, List.length_cons]
      omega
  · rw [join_cps] at hc
    obtain ⟨l, hl, hc⟩ := List.mem_flatten.mp hc
    obtain ⟨y, hy, rfl⟩ := List.mem_map.mp hl
    exact (h y hy).2 c hc
theorem strs_P {S : Nat → Str → Prop} : ∀ {ys : List D}, (∀ (i : Nat) y, ys[i]? = some y → ∃ x, y = .str x ∧ S i x) → ∃ ns : List Str, ys = ns.map .str ∧ ∀ (i : Nat) x, ns[i]? = some x → S i x
  | [], _ => ⟨[], rfl, fun i x hx => by simp at hx⟩
  | y :: ys, h => by
    obtain ⟨x, rfl, hx⟩ := h 0 y rfl
    obtain ⟨ns, rfl, hn⟩ := strs_P (S := fun i => S (i + 1)) (ys := ys) fun i z hz => h (i + 1) z (by simpa using hz)
    refine ⟨x :: ns, rfl, fun i z hz => ?_⟩
    cases i with
    | zero => simp at hz; exact hz ▸ hx
    | succ i => exact hn i z (by simpa using hz)
theorem nodup_P {xs : List Str} (f : Str → Int) (h : ∀ (i : Nat) x, xs[i]? = some x → f x = (i : Int)) : xs.Nodup := by
  rw [List.nodup_iff_pairwise_ne, List.pairwise_iff_getElem]
  intro i j hi hj hij e
  have h1 := h i _ (List.getElem?_eq_getElem hi)
  have h2 := h j _ (List.getElem?_eq_getElem hj)
  rw [e] at h1
  omega
theorem nodup_P2 {xs : List Str} {α : Type} (f : Str → α) (g : Nat → α) (h : ∀ (i : Nat) x, xs[i]? = some x → f x = g i) (hg : ∀ i j : Nat, i < j → j < xs.length → g i ≠ g j) : xs.Nodup := by
  rw [List.nodup_iff_pairwise_ne, List.pairwise_iff_getElem]
  intro i j hi hj hij e
  have h1 := h i _ (List.getElem?_eq_getElem hi)
  have h2 := h j _ (List.getElem?_eq_getElem hj)
  rw [e] at h1
  exact hg i j hij hj (h1.symm.trans h2)
end Mi

namespace Mi
open PySem L2
end Mi

namespace Mi
open PySem L2
end Mi

namespace Mi
open PySem L2
local macro_rules | `(tactic| walk_at "gl") => `(tactic| first
  | assumption
  | (refine Own.atL (h0 := ?_) (L := ?_) ?_ 0 ?_; rotate_left; rotate_left; assumption; rfl)
  | (refine Own.atL (h0 := ?_) (L := ?_) ?_ 1 ?_; rotate_left; rotate_left; assumption; rfl)
  | (refine Own.atL (h0 := ?_) (L := ?_) ?_ 2 ?_; rotate_left; rotate_left; assumption; rfl)
  | (refine Own.atL (h0 := ?_) (L := ?_) ?_ 3 ?_; rotate_left; rotate_left; assumption; rfl)
  | (refine Own.atL (h0 := ?_) (L := ?_) ?_ 4 ?_; rotate_left; rotate_left; assumption; rfl)
  | (refine Own.atL (h0 := ?_) (L := ?_) ?_ 5 ?_; rotate_left; rotate_left; assumption; rfl)
  | (refine Own.atL (h0 := ?_) (L := ?_) ?_ 6 ?_; rotate_left; rotate_left; assumption; rfl)
  | (refine Own.atL (h0 := ?_) (L := ?_) ?_ 7 ?_; rotate_left; rotate_left; assumption; rfl)
  | (refine Own.atL (h0 := ?_) (L := ?_) ?_ 8 ?_; rotate_left; rotate_left; assumption; rfl)
  | (refine Own.atL (h0 := ?_) (L := ?_) ?_ 9 ?_; rotate_left; rotate_left; assumption; rfl)
  | (refine Own.getL (h0 := ?_) (L := ?_) ?_ ?_; rotate_left; rotate_left; assumption; assumption))
local macro_rules | `(tactic| walk_at "il") => `(tactic| first
  | (refine Own.isL (h0 := ?_) (L := ?_) (l := ?_) ?_ 0 ?_; rotate_left; rotate_left; rotate_left; assumption; rfl)
  | (refine Own.isL (h0 := ?_) (L := ?_) (l := ?_) ?_ 1 ?_; rotate_left; rotate_left; rotate_left; assumption; rfl)
  | (refine Own.isL (h0 := ?_) (L := ?_) (l := ?_) ?_ 2 ?_; rotate_left; rotate_left; rotate_left; assumption; rfl)
  | (refine Own.isL (h0 := ?_) (L := ?_) (l := ?_) ?_ 3 ?_; rotate_left; rotate_left; rotate_left; assumption; rfl)
  | (refine Own.isL (h0 := ?_) (L := ?_) (l := ?_) ?_ 4 ?_; rotate_left; rotate_left; rotate_left; assumption; rfl)
  | (refine Own.isL (h0 := ?_) (L := ?_) (l := ?_) ?_ 5 ?_; rotate_left; rotate_left; rotate_left; assumption; rfl)
  | (refine Own.isL (h0 := ?_) (L := ?_) (l := ?_) ?_ 6 ?_; rotate_left; rotate_left; rotate_left; assumption; rfl)
  | (refine Own.isL (h0 := ?_) (L := ?_) (l := ?_) ?_ 7 ?_; rotate_left; rotate_left; rotate_left; assumption; rfl)
  | (refine Own.isL (h0 := ?_) (L := ?_) (l := ?_) ?_ 8 ?_; rotate_left; rotate_left; rotate_left; assumption; rfl)
  | (refine Own.isL (h0 := ?_) (L := ?_) (l := ?_) ?_ 9 ?_; rotate_left; rotate_left; rotate_left; assumption; rfl))
local macro_rules | `(tactic| walk_at "bd") => `(tactic| first | assumption | omega | (simp; done) | (simp; omega) | (simp [*]; done) | (simp [*]; omega))
local macro_rules | `(tactic| walk_at "w") => `(tactic| first
  | with_reducible refine w_seq ?_
  | with_reducible refine w_asg ?_
  | with_reducible refine w_cons ?_
  | with_reducible refine w_nil ?_
  | with_reducible refine w_c ?_
  | ((with_reducible refine w_var (d := ?_) ?_ ?_); rotate_left; rfl)
  | with_reducible refine w_bin ?_
  | with_reducible refine w_call ?_
  | with_reducible refine w_if ?_
  | with_reducible refine w_B ?_
  | with_reducible refine w_unB ?_
  | with_reducible refine w_ret ?_
  | with_reducible refine w_drop ?_
  | with_reducible refine w_skip ?_
  | with_reducible refine w_eq (dAdd_int _ _ _) ?_
  | with_reducible refine w_eq (dSub_int _ _ _) ?_
  | with_reducible refine w_eq (dEq_int _ _ _) ?_
  | with_reducible refine w_eq (dEq_str _ _ _) ?_
  | with_reducible refine w_eq (dNe_strs _ _ _) ?_
  | with_reducible refine w_eq (dEq_bls _ _ _) ?_
  | with_reducible refine w_eq (dNe_bls _ _ _) ?_
  | with_reducible refine w_eq (dLt_int _ _ _) ?_
  | with_reducible refine w_eq (dLe_int _ _ _) ?_
  | with_reducible refine w_eq (dGt_int _ _ _) ?_
  | with_reducible refine w_eq (dGe_int _ _ _) ?_
  | with_reducible refine w_eq (dNe_int _ _ _) ?_
  | ((with_reducible refine w_mod ?_ ?_); (first | assumption | decide | omega))
  | ((with_reducible refine w_fdiv ?_ ?_); (first | assumption | decide | omega))
  | ((with_reducible refine w_mulS ?_ ?_); (first | decide | omega))
  | ((with_reducible refine w_addS ?_ ?_); (first | assumption | decide | omega))
  | ((with_reducible refine w_lenS ?_ ?_); (first | assumption | decide | omega))
  | ((with_reducible refine w_slS ?_ ?_); (first | assumption | decide | omega))
  | with_reducible refine w_lenTm ?_
  | with_reducible refine w_eq (dLen_tup _ _) ?_
  | with_reducible refine w_eq (dSl_tup _ _ _ _) ?_
  | with_reducible refine w_eq (dMax_ev _ _ _) ?_
  | with_reducible refine w_eq (dMin_ev _ _ _) ?_
  | with_reducible refine w_eq (dAbs_ev _ _) ?_
  | with_reducible refine w_not ?_
  | with_reducible refine w_and ?_
  | with_reducible refine w_or ?_
  | with_reducible refine br_n ?_
  | with_reducible refine br_tt ?_
  | with_reducible refine br_ff ?_
  | ((with_reducible refine br_dt ?_ ?_); (first | assumption | omega | rfl))
  | ((with_reducible refine br_df ?_ ?_); (first | assumption | omega))
  | with_reducible refine w_tup ?_
  | ((with_reducible refine w_toTup ?_ ?_); exact (by simp))
  | with_reducible refine w_lst ?_
  | with_reducible refine w_lc ?_
  | with_reducible refine w_for ?_
  | with_reducible refine w_range1 ?_
  | with_reducible refine w_range2 ?_
  | ((with_reducible refine w_dR1 ?_ ?_); (first | decide | omega))
  | ((with_reducible refine w_dR2 ?_ ?_); (first | decide | omega))
  | with_reducible refine w_iter ?_
  | with_reducible refine w_eq (iter1_tup _ _) ?_
  | with_reducible refine w_eq (iter1_str _ _) ?_
  | with_reducible refine w_sl ?_
  | with_reducible refine w_no ?_
  | with_reducible refine w_some ?_
  | with_reducible refine w_unI ?_
  | with_reducible refine w_meth ?_
  | with_reducible refine w_isi ?_
  | with_reducible refine w_zip ?_
  | with_reducible refine w_ifE ?_
  | with_reducible refine w_andV ?_
  | with_reducible refine w_orV ?_
  | with_reducible refine w_notV ?_
  | with_reducible refine w_andK ?_
  | with_reducible refine w_orK ?_
  | with_reducible refine w_notK ?_
  | with_reducible refine w_revL ?_
  | with_reducible refine w_listRg1 ?_
  | with_reducible refine w_tindex ?_
  | with_reducible refine w_setIx ?_
  | with_reducible refine w_un ?_
  | with_reducible refine w_rev1 ?_
  | with_reducible refine w_rev2 ?_
  | with_reducible refine w_chain ?_
  | with_reducible refine w_chK ?_
  | with_reducible refine w_retN ?_
  | with_reducible refine w_brk ?_
  | with_reducible refine w_cont ?_
  | with_reducible refine w_asgT ?_
  | with_reducible refine w_eq (isi_str_str _ _) ?_
  | with_reducible refine w_eq (isi_int_int _ _) ?_
  | with_reducible refine w_eq (isi_tup_tup _ _) ?_
  | with_reducible refine w_eq (isi_bool_int _ _) ?_
  | with_reducible refine w_eq (isi_str_int _ _) ?_
  | ((with_reducible refine w_lenLm (α := ?_) (f := ?_) (l := ?_) ?_ ?_); rotate_left; rotate_left; rotate_left; walk_at "gl")
  | ((with_reducible refine w_lenL (l := ?_) ?_ ?_); rotate_left; walk_at "gl")
  | ((with_reducible refine w_iterL (l := ?_) ?_ ?_); rotate_left; walk_at "gl"; dsimp only)
  | ((with_reducible refine w_tupL (l := ?_) ?_ ?_); rotate_left; walk_at "gl")
  | ((with_reducible refine w_ixT (d := ?_) ?_ ?_); rotate_left; (first | with_reducible assumption | rfl))
  | ((with_reducible refine w_ixL (l := ?_) (d := ?_) ?_ ?_ ?_); rotate_left; rotate_left; walk_at "gl"; (first | with_reducible assumption | rfl))
  | ((with_reducible refine w_addT ?_ ?_); walk_at "bd")
  | ((with_reducible refine ⟨?_, ?_⟩); (with_reducible (show isListD (.ref _) _ = true)); walk_at "il")
  | with_reducible refine w_tryK ?_
  | with_reducible refine w_raise ?_
  | with_reducible refine w_raise0 ?_
  | with_reducible refine w_isX ?_
  | ((with_reducible refine w_isXK (k := ?_) ?_ ?_); rotate_left; (first | with_reducible exact lkA | (apply lkB; decide +kernel; exact lkA) | (apply lkB; decide +kernel; apply lkB; decide +kernel; exact lkA) | (apply lkB; decide +kernel; apply lkB; decide +kernel; apply lkB; decide +kernel; exact lkA)))
  | with_reducible refine w_xf ?_
  | ((with_reducible refine w_xfK ?_ ?_ ?_); (exact List.mem_cons_self); (decide))
  | with_reducible refine w_eq (isN_xo _) ?_
  | with_reducible refine w_eq (dNeg_int _ _) ?_)
local macro_rules | `(tactic| walk_at "go") => `(tactic| (repeat (walk_at "w")); try dsimp only [List.set])
local macro_rules | `(tactic| walk_at "fn") => `(tactic| ((refine w_fun ?_); simp only [startD, List.map_cons, List.map_nil, List.reduceReplicate, Nat.reduceSub, List.cons_append, List.nil_append]; walk_at "go"))
def pnOf (ps : List Int) : Nat → Nat := fun j => (ps.getD j 0).toNat
theorem Par.pn {ps : List Int} (h : Par ps) : PnOk (pnOf ps) ps.length := fun j h0 h1 => by
  have e := List.getElem?_eq_getElem (l := ps) (i := j) h1
  have := h.2 j _ h0 e
  unfold pnOf
  rw [List.getD_eq_getElem?_getD, e]
  simp; omega
theorem Par.val {ps : List Int} (h : Par ps) {j : Nat} {p : Int} (e : ps[j]? = some p) : p = (pnOf ps j : Int) := by
  unfold pnOf
  rw [List.getD_eq_getElem?_getD, e]
  rcases Nat.eq_zero_or_pos j with z | z
  · subst z
    rw [h.1] at e
    cases e
    rfl
  · have := h.2 j p z e
    simp; omega
theorem getE {α : Type} {l : List α} {i : Nat} (h : i < l.length) : l[i]? = some l[i] := List.getElem?_eq_getElem h
/-! ### the program's defs -/
end Mi

namespace Mi
open PySem L2
local macro_rules | `(tactic| walk_at "gl") => `(tactic| first
  | assumption
  | (refine Own.atL (h0 := ?_) (L := ?_) ?_ 0 ?_; rotate_left; rotate_left; assumption; rfl)
  | (refine Own.atL (h0 := ?_) (L := ?_) ?_ 1 ?_; rotate_left; rotate_left; assumption; rfl)
  | (refine Own.atL (h0 := ?_) (L := ?_) ?_ 2 ?_; rotate_left; rotate_left; assumption; rfl)
  | (refine Own.atL (h0 := ?_) (L := ?_) ?_ 3 ?_; rotate_left; rotate_left; assumption; rfl)
  | (refine Own.atL (h0 := ?_) (L := ?_) ?_ 4 ?_; rotate_left; rotate_left; assumption; rfl)
  | (refine Own.atL (h0 := ?_) (L := ?_) ?_ 5 ?_; rotate_left; rotate_left; assumption; rfl)
  | (refine Own.atL (h0 := ?_) (L := ?_) ?_ 6 ?_; rotate_left; rotate_left; assumption; rfl)
  | (refine Own.atL (h0 := ?_) (L := ?_) ?_ 7 ?_; rotate_left; rotate_left; assumption; rfl)
  | (refine Own.atL (h0 := ?_) (L := ?_) ?_ 8 ?_; rotate_left; rotate_left; assumption; rfl)
  | (refine Own.atL (h0 := ?_) (L := ?_) ?_ 9 ?_; rotate_left; rotate_left; assumption; rfl)
  | (refine Own.getL (h0 := ?_) (L := ?_) ?_ ?_; rotate_left; rotate_left; assumption; assumption))
local macro_rules | `(tactic| walk_at "il") => `(tactic| first
  | (refine Own.isL (h0 := ?_) (L := ?_) (l := ?_) ?_ 0 ?_; rotate_left; rotate_left; rotate_left; assumption; rfl)
  | (refine Own.isL (h0 := ?_) (L := ?_) (l := ?_) ?_ 1 ?_; rotate_left; rotate_left; rotate_left; assumption; rfl)
  | (refine Own.isL (h0 := ?_) (L := ?_) (l := ?_) ?_ 2 ?_; rotate_left; rotate_left; rotate_left; assumption; rfl)
  | (refine Own.isL (h0 := ?_) (L := ?_) (l := ?_) ?_ 3 ?_; rotate_left; rotate_left; rotate_left; assumption; rfl)
  | (refine Own.isL (h0 := ?_) (L := ?_) (l := ?_) ?_ 4 ?_; rotate_left; rotate_left; rotate_left; assumption; rfl)
  | (refine Own.isL (h0 := ?_) (L := ?_) (l := ?_) ?_ 5 ?_; rotate_left; rotate_left; rotate_left; assumption; rfl)
  | (refine Own.isL (h0 := ?_) (L := ?_) (l := ?_) ?_ 6 ?_; rotate_left; rotate_left; rotate_left; assumption; rfl)
  | (refine Own.isL (h0 := ?_) (L := ?_) (l := ?_) ?_ 7 ?_; rotate_left; rotate_left; rotate_left; assumption; rfl)
  | (refine Own.isL (h0 := ?_) (L := ?_) (l := ?_) ?_ 8 ?_; rotate_left; rotate_left; rotate_left; assumption; rfl)
  | (refine Own.isL (h0 := ?_) (L := ?_) (l := ?_) ?_ 9 ?_; rotate_left; rotate_left; rotate_left; assumption; rfl))
local macro_rules | `(tactic| walk_at "bd") => `(tactic| first | assumption | omega | (simp; done) | (simp; omega) | (simp [*]; done) | (simp [*]; omega))
local macro_rules | `(tactic| walk_at "w") => `(tactic| first
  | with_reducible refine w_seq ?_
  | with_reducible refine w_asg ?_
  | with_reducible refine w_cons ?_
  | with_reducible refine w_nil ?_
  | with_reducible refine w_c ?_
  | ((with_reducible refine w_var (d := ?_) ?_ ?_); rotate_left; rfl)
  | with_reducible refine w_bin ?_
  | with_reducible refine w_call ?_
  | with_reducible refine w_if ?_
  | with_reducible refine w_B ?_
  | with_reducible refine w_unB ?_
  | with_reducible refine w_ret ?_
  | with_reducible refine w_drop ?_
  | with_reducible refine w_skip ?_
  | with_reducible refine w_eq (dAdd_int _ _ _) ?_
  | with_reducible refine w_eq (dSub_int _ _ _) ?_
  | with_reducible refine w_eq (dEq_int _ _ _) ?_
  | with_reducible refine w_eq (dEq_str _ _ _) ?_
  | with_reducible refine w_eq (dNe_strs _ _ _) ?_
  | with_reducible refine w_eq (dEq_bls _ _ _) ?_
  | with_reducible refine w_eq (dNe_bls _ _ _) ?_
  | with_reducible refine w_eq (dLt_int _ _ _) ?_
  | with_reducible refine w_eq (dLe_int _ _ _) ?_
  | with_reducible refine w_eq (dGt_int _ _ _) ?_
  | with_reducible refine w_eq (dGe_int _ _ _) ?_
  | with_reducible refine w_eq (dNe_int _ _ _) ?_
  | ((with_reducible refine w_mod ?_ ?_); (first | assumption | decide | omega))
  | ((with_reducible refine w_fdiv ?_ ?_); (first | assumption | decide | omega))
  | ((with_reducible refine w_mulS ?_ ?_); (first | decide | omega))
  | ((with_reducible refine w_addS ?_ ?_); (first | assumption | decide | omega))
  | ((with_reducible refine w_lenS ?_ ?_); (first | assumption | decide | omega))
  | ((with_reducible refine w_slS ?_ ?_); (first | assumption | decide | omega))
  | with_reducible refine w_lenTm ?_
  | with_reducible refine w_eq (dLen_tup _ _) ?_
  | with_reducible refine w_eq (dSl_tup _ _ _ _) ?_
  | with_reducible refine w_eq (dMax_ev _ _ _) ?_
  | with_reducible refine w_eq (dMin_ev _ _ _) ?_
  | with_reducible refine w_eq (dAbs_ev _ _) ?_
  | with_reducible refine w_not ?_
  | with_reducible refine w_and ?_
  | with_reducible refine w_or ?_
  | with_reducible refine br_n ?_
  | with_reducible refine br_tt ?_
  | with_reducible refine br_ff ?_
  | ((with_reducible refine br_dt ?_ ?_); (first | assumption | omega | rfl))
  | ((with_reducible refine br_df ?_ ?_); (first | assumption | omega))
  | with_reducible refine w_tup ?_
  | ((with_reducible refine w_toTup ?_ ?_); exact (by simp))
  | with_reducible refine w_lst ?_
  | with_reducible refine w_lc ?_
  | with_reducible refine w_for ?_
  | with_reducible refine w_range1 ?_
  | with_reducible refine w_range2 ?_
  | ((with_reducible refine w_dR1 ?_ ?_); (first | decide | omega))
  | ((with_reducible refine w_dR2 ?_ ?_); (first | decide | omega))
  | with_reducible refine w_iter ?_
  | with_reducible refine w_eq (iter1_tup _ _) ?_
  | with_reducible refine w_eq (iter1_str _ _) ?_
  | with_reducible refine w_sl ?_
  | with_reducible refine w_no ?_
  | with_reducible refine w_some ?_
  | with_reducible refine w_unI ?_
  | with_reducible refine w_meth ?_
  | with_reducible refine w_isi ?_
  | with_reducible refine w_zip ?_
  | with_reducible refine w_ifE ?_
  | with_reducible refine w_andV ?_
  | with_reducible refine w_orV ?_
  | with_reducible refine w_notV ?_
  | with_reducible refine w_andK ?_
  | with_reducible refine w_orK ?_
  | with_reducible refine w_notK ?_
  | with_reducible refine w_revL ?_
  | with_reducible refine w_listRg1 ?_
  | with_reducible refine w_tindex ?_
  | with_reducible refine w_setIx ?_
  | with_reducible refine w_un ?_
  | with_reducible refine w_rev1 ?_
  | with_reducible refine w_rev2 ?_
  | with_reducible refine w_chain ?_
  | with_reducible refine w_chK ?_
  | with_reducible refine w_retN ?_
  | with_reducible refine w_brk ?_
  | with_reducible refine w_cont ?_
  | with_reducible refine w_asgT ?_
  | with_reducible refine w_eq (isi_str_str _ _) ?_
  | with_reducible refine w_eq (isi_int_int _ _) ?_
  | with_reducible refine w_eq (isi_tup_tup _ _) ?_
  | with_reducible refine w_eq (isi_bool_int _ _) ?_
  | with_reducible refine w_eq (isi_str_int _ _) ?_
  | ((with_reducible refine w_lenLm (α := ?_) (f := ?_) (l := ?_) ?_ ?_); rotate_left; rotate_left; rotate_left; walk_at "gl")
  | ((with_reducible refine w_lenL (l := ?_) ?_ ?_); rotate_left; walk_at "gl")
  | ((with_reducible refine w_iterL (l := ?_) ?_ ?_); rotate_left; walk_at "gl"; dsimp only)
  | ((with_reducible refine w_tupL (l := ?_) ?_ ?_); rotate_left; walk_at "gl")
  | ((with_reducible refine w_ixT (d := ?_) ?_ ?_); rotate_left; (first | with_reducible assumption | rfl))
  | ((with_reducible refine w_ixL (l := ?_) (d := ?_) ?_ ?_ ?_); rotate_left; rotate_left; walk_at "gl"; (first | with_reducible assumption | rfl))
  | ((with_reducible refine w_addT ?_ ?_); walk_at "bd")
  | ((with_reducible refine ⟨?_, ?_⟩); (with_reducible (show isListD (.ref _) _ = true)); walk_at "il")
  | with_reducible refine w_tryK ?_
  | with_reducible refine w_raise ?_
  | with_reducible refine w_raise0 ?_
  | with_reducible refine w_isX ?_
  | ((with_reducible refine w_isXK (k := ?_) ?_ ?_); rotate_left; (first | with_reducible exact lkA | (apply lkB; decide +kernel; exact lkA) | (apply lkB; decide +kernel; apply lkB; decide +kernel; exact lkA) | (apply lkB; decide +kernel; apply lkB; decide +kernel; apply lkB; decide +kernel; exact lkA)))
  | with_reducible refine w_xf ?_
  | ((with_reducible refine w_xfK ?_ ?_ ?_); (exact List.mem_cons_self); (decide))
  | with_reducible refine w_eq (isN_xo _) ?_
  | with_reducible refine w_eq (dNeg_int _ _) ?_)
local macro_rules | `(tactic| walk_at "go") => `(tactic| (repeat (walk_at "w")); try dsimp only [List.set])
local macro_rules | `(tactic| walk_at "fn") => `(tactic| ((refine w_fun ?_); simp only [startD, List.map_cons, List.map_nil, List.reduceReplicate, Nat.reduceSub, List.cons_append, List.nil_append]; walk_at "go"))
def Smalls (zs : List Int) : Prop := ∀ z ∈ zs, 0 ≤ z ∧ z < 1000000000
/-- a little more than a cell -/
def CellQ (c : Int) : Prop := Builtin.Int.intBits c ≤ 1048576 + 64 ∧ 0 ≤ c
theorem CellP.q {c : Int} (h : CellP c) : CellQ c := ⟨Nat.le_trans h.1 (by decide), h.2⟩
theorem bits_lt' (n : Nat) : n < 2 ^ Builtin.Int.intBits (n : Int) := by
  unfold Builtin.Int.intBits
  split
  · rename_i hz
    have : n = 0 := by simpa using hz
    subst this
    decide
  · rename_i hz
    rw [Int.natAbs_natCast]
    exact Nat.lt_log2_self
theorem pow_more {n k B : Nat} (h : n < 2 ^ B) (hk : k < 2147483648) : n + k < 2 ^ (B + 64) := by
  rw [Nat.pow_add]
  have e2 : (1 : Nat) ≤ 2 ^ B := Nat.one_le_two_pow
  have h64 : (2 : Nat) ^ 64 = 18446744073709551616 := by decide
  rw [h64]
  omega
theorem CellP.add {c k : Int} (h : CellP c) (h0 : 0 ≤ k) (h1 : k < 2147483648) : CellQ (c + k) := by
  have hc := h.2
  refine ⟨bits_lt ?_, by omega⟩
  have e := bits_lt' c.toNat
  rw [Int.toNat_of_nonneg hc] at e
  have e1 := pow_more (k := k.toNat) (Nat.lt_of_lt_of_le e (Nat.pow_le_pow_right (n := 2) (by decide) h.1)) (by omega)
  have e2 : (c + k).natAbs = c.toNat + k.toNat := by omega
  rw [e2]
  exact e1
end Mi

namespace Mi
open PySem L2
section
variable {x : Str} {l : List Str} {h : MH} {Q : D → MH → Prop} {E : XE}
end
end Mi

namespace Mi
open PySem L2
def gmD (fs ns : List Str) (st : List Int) (sp : List (List Int)) (mk : List Int) : D := .tup [.tup (fs.map .str), .tup (ns.map .str), .tup (st.map .int), .tup (sp.map fun r => .tup (r.map .int)), .tup (mk.map .int)]
structure GOk (m : Nat) (fs ns : List Str) (st : List Int) (sp : List (List Int)) (mk : List Int) : Prop where
  n1 : 1 ≤ sp.length
  nm : sp.length ≤ m
  row : ∀ r ∈ sp, r.length = sp.length ∧ ∀ z ∈ r, 0 ≤ z ∧ z < (sp.length : Int)
  stl : st.length = ns.length + 1
  stv : ∀ z ∈ st, 0 ≤ z ∧ z < (sp.length : Int)
  mkl : mk.length = sp.length
  mkv : ∀ z ∈ mk, 0 ≤ z ∧ z < 2 ^ fs.length
end Mi

namespace Mi
open PySem L2
end Mi

namespace Mi
open PySem L2
def m_lowered_0b90e : List D → MH → R D := mFun 2 7
 (mSeq (mAsg 2 (mC (.bl false)))
 (mSeq (mFor (mRange1 (mCall dLen (mCons (mVar 1) (mNil)))) (mgName 3)
 (mFor (mRange1 (mCall dLen (mCons (mVar 1) (mNil)))) (mgName 4)
 (mIf (mAnd (mB (mBin dNotN (mBin dIx (mVar 1) (mVar 3)) (mC .non))) (mB (mBin dNotN (mBin dIx (mVar 1) (mVar 4)) (mC .non))))
 (mSeq (mAsg 5 (mBin dAdd (mBin dIx (mVar 1) (mVar 3)) (mBin dIx (mVar 1) (mVar 4))))
 (mSeq (mAsg 6 (mBin dIx (mBin dIx (mBin dIx (mVar 0) (mC (.int 3))) (mVar 3)) (mVar 4)))
 (mIf (mOr (mB (mBin dIsN (mBin dIx (mVar 1) (mVar 6)) (mC .non))) (mB (mBin dLt (mVar 5) (mBin dIx (mVar 1) (mVar 6)))))
 (mSeq (mSetIx (mVar 1) (mVar 6) (mVar 5))
 (mAsg 2 (mC (.bl true))))
 (mSkip))))
 (mSkip))))
 (mRet (mVar 2))))
def m_sizes_9dfee : List D → MH → R D := mFun 1 4
 (mSeq (mAsg 1 (mLc (mIter (mBin dIx (mVar 0) (mC (.int 4)))) (mgName 3) (mYes) (mC .non) [3]))
 (mSeq (mFor (mIter (mBin dIx (mVar 0) (mC (.int 2)))) (mgName 2)
 (mSetIx (mVar 1) (mVar 2) (mC (.int 1))))
 (mSeq (mWhile 1000000000000000000000000 (mB (mCall (m_lowered_0b90e) (mCons (mVar 0) (mCons (mVar 1) (mNil)))))
 (mSkip))
 (mRet (mCall dTuple (mCons (mVar 1) (mNil)))))))
end Mi

/-! sorted(d) of a dict whose keys are texts; list.clear. -/
namespace Mi
open PySem L2 PySem.Spec PyProof.Rows
/-- what isn't there isn't tracked -/
theorem hok_none {P : Program} {w : World} {H : Hp} {h : Heap} {a : Addr} (ok : HOk P w H h) (e : h.get? a = none) : H a = none := by
  have go : ∀ o, ObjOk P w H h a o → False := by
    intro o
    induction o with
    | lst xs => rintro ⟨_, _, _, _, q⟩; rw [e] at q; cases q
    | tup xs => rintro ⟨_, _, _, o, q, _⟩; rw [e] at q; cases q
    | dK kvs => rintro ⟨_, _, _, _, o, _, _, q, _⟩; rw [e] at q; cases q
    | dT kvs => rintro ⟨_, _, _, _, o, _, _, q, _⟩; rw [e] at q; cases q
    | set S n => rintro ⟨o, _, _, _, q, _⟩; rw [e] at q; cases q
    | ins C dx fs => rintro ⟨_, _, _, q, _⟩; rw [e] at q; cases q
    | own y => rintro ⟨_, q⟩; rw [e] at q; cases q
    | xd fs => rintro ⟨_, ⟨_, _, _, q, _⟩, _⟩; rw [e] at q; cases q
    | rng lo hi => rintro ⟨_, _, _, q⟩; rw [e] at q; cases q
    | frz ob u ih => rintro ⟨q, _⟩; rw [e] at q; cases q
    | tbl ps => intro q; rw [show h.get? a = some _ from q] at e; cases e
    | met f y => intro q; rw [show h.get? a = some _ from q] at e; cases e
    | ext φ => rintro ⟨_, ⟨_, q⟩, _⟩; rw [e] at q; cases q
  cases q : H a with
  | none => rfl
  | some o => exact (go o (ok a o q)).elim
def rSortK : List V → Hp → VK → Prop := fun xs H Q => ∃ (a : Addr) (kvs : List (Key × V)) (ys : List Str), xs = [V.ref a] ∧ H a = some (.dK kvs) ∧ kvs.map (·.1) = ys.map Sum.inr ∧ ∀ p, H p = none → Q (.ref p) (upd H p (.lst ((sortS ys).map V.str)))
/-- the keys, all of them texts -/
def strKeys : List (Key × D) → Option (List Str)
  | [] => some []
  | (.inr x, _) :: l => (strKeys l).map (x :: ·)
  | (.inl _, _) :: _ => none
def dSortK : List D → MH → R D
  | [x], h => match getK h x with
    | some l => match strKeys l with
      | some ys => .ok (.ref h.length) (h ++ [.lst ((sortS ys).map .str)])
      | none => .bad
    | none => .bad
  | _, _ => .bad
def dClear : D → List D → MH → R D
  | .ref i, [], h => match h[i]? with
    | some (.lst _) => .ok .non (h.set i (.lst []))
    | _ => .bad
  | _, _, _ => .bad
/-! the calculus -/
end Mi

/-! list.pop(0), list.insert. -/
namespace Mi
open PySem L2 PySem.Spec PyProof.Rows
def dPop0 : D → List D → MH → R D
  | .ref i, [.int 0], h => match h[i]? with
    | some (.lst (d :: l)) => .ok d (h.set i (.lst l))
    | _ => .bad
  | _, _, _ => .bad
/-- list.insert -/
def insD (l : List D) (k : Nat) (d : D) : List D := l.take k ++ d :: l.drop k
end Mi

/-! int(text). -/
namespace Mi
open PySem L2
def dIntS : List D → MH → R D
  | [.str x], h => match PySem.intText? x with
    | some n => if x.length ≤ 640 then .ok (.int n) h else .bad
    | none => .bad
  | _, _ => .bad
section
variable {g : G} {X : Cx}
end
end Mi

/-! Sets of ints and texts: set(xs) of a list, sorted of it, its length. -/
namespace Mi
open PySem L2 PySem.Spec PyProof.Rows
/-! ### what was met, each once -/
instance memK (k : Key) (L : List Key) : Decidable (k ∈ L) := decidable_of_iff ((L.any fun j => decide (j = k)) = true) (by
  rw [List.any_eq_true]
  exact ⟨fun ⟨x, h1, h2⟩ => of_decide_eq_true h2 ▸ h1, fun h => ⟨k, h, decide_eq_true rfl⟩⟩)
def onceK (l : List Key) : List Key := l.foldl (fun L k => if k ∈ L then L else L ++ [k]) []
/-! ### the set in the heap -/
def kyOf (e : Int × Value) : Key := match e.2 with
  | .int k _ => .inl k
  | .str x _ => .inr x
  | _ => .inl 0
def GdE (w : World) (e : Int × Value) : Prop := ∃ k, keyIs k e.2 = true ∧ e.1 = keyH w k
structure SetX (w : World) (h : Heap) (a : Addr) (L : List Key) (o : Obj) (es : Array (Int × Value)) (ep : Nat) (t : SetTable) : Prop where
  ob : h.get? a = some o
  ex : o.ExactSet
  da : o.data = .set es ep t
  gd : ∀ e ∈ es.toList, GdE w e
  pm : (es.toList.map kyOf).Perm L
  nd : L.Nodup
  sz : L.length < scanBound
  ft : t.fits es.size = true
  rs : Ris t.place.toList
  ld : w.params.followText "set-order" = true ∨ t.led = true
def SetL (w : World) (h : Heap) (a : Addr) (L : List Key) : Prop := ∃ o es ep t, SetX w h a L o es ep t
section
variable {P : Program} {w : World} {A : Around} {E : Value → Shared → Prop} {s : Shared} {a : Addr} {L : List Key}
theorem SetX.el {h : Heap} {o : Obj} {es : Array (Int × Value)} {ep : Nat} {t : SetTable} (R : SetX w h a L o es ep t) : ElemsOf (mixKind P w) es.toList := fun e he => by
  obtain ⟨k, h1, h2⟩ := R.gd e he
  refine ⟨⟨k, h1, h2⟩, ?_⟩
  rcases keyIs_shape h1 with ⟨j, t, rfl, q⟩ | ⟨x, t, rfl, q⟩ <;> rw [q] <;> rfl
theorem SetX.len {h : Heap} {o : Obj} {es : Array (Int × Value)} {ep : Nat} {t : SetTable} (R : SetX w h a L o es ep t) : es.size = L.length := by
  rw [← R.pm.length_eq, List.length_map, Array.length_toList]
theorem SetL.keep {h h' : Heap} (R : SetL w h a L) (k : ∀ o, h.get? a = some o → h'.get? a = some o) : SetL w h' a L := by
  obtain ⟨o, es, ep, t, r⟩ := R
  exact ⟨o, es, ep, t, { r with ob := k o r.ob }⟩
end
/-! ### set(xs) -/
section
variable {prog : Program} {w : World} {A : Around} {R : Result → Shared → Prop} {I : Addr} {fp wr : List Addr} {G : Array GenState → Array GenState → Prop} {n : Nat} {Pv : Nat → Value → Prop} {St : Nat → Shared → Prop}
end
def emptyS (w : World) : Obj := { cls := .type "set", dict := none, data := .set #[] 0 (.fresh 0 0 (!w.params.followText "set-order")) }
section
variable {P : Program} {w : World} {A : Around} {E : Value → Shared → Prop} {s : Shared}
set_option maxHeartbeats 3200000 in
end
/-! ### the mirror -/
def keysD : List D → Option (List Key)
  | [] => some []
  | d :: l => match keyD d, keysD l with
    | some k, some r => some (k :: r)
    | _, _ => none
def mLenSet (a : ME) : ME := fun ρ h => (a ρ h).bind fun x h1 => match x with
  | .ref i => match (getL h1 i).bind keysD with
    | some ks => if ks.length < 4000 then .ok (.int (onceK ks).length) h1 else .bad
    | none => .bad
  | _ => .bad
def mSortSet (a : ME) : ME := fun ρ h => (a ρ h).bind fun x h1 => match x with
  | .ref i => match (getL h1 i).bind allStr with
    | some ys => if ys.length < 4000 then .ok (.ref h1.length) (h1 ++ [.lst ((sortS (ys.eraseDups)).map .str)]) else .bad
    | none => .bad
  | _ => .bad
section
variable {g : G} {H : Hp} {μ : List Addr}
end
section
variable {X : Cx} {g : G} {W : WX} {ma : ME} {a : Expr} {p p2 q pos : Pos}
end
/-! ### as calls -/
def dLenSet : List D → MH → R D
  | [x], h1 => match x with
    | .ref i => match (getL h1 i).bind keysD with
      | some ks => if ks.length < 4000 then .ok (.int (onceK ks).length) h1 else .bad
      | none => .bad
    | _ => .bad
  | _, _ => .bad
def dSortSet : List D → MH → R D
  | [x], h1 => match x with
    | .ref i => match (getL h1 i).bind allStr with
      | some ys => if ys.length < 4000 then .ok (.ref h1.length) (h1 ++ [.lst ((sortS (ys.eraseDups)).map .str)]) else .bad
      | none => .bad
    | _ => .bad
  | _, _ => .bad
section
variable {X : Cx} {g : G} {W : WX} {ma : ME} {a : Expr} {p p2 q pos : Pos}
end
end Mi

/-! list(d.values()). -/
namespace Mi
open PySem L2 PySem.Spec PyProof.Rows
def mVals (a : ME) : ME := fun ρ h => (a ρ h).bind fun x h1 => match getK h1 x with
  | some l => .ok (.ref h1.length) (h1 ++ [.lst (l.map (·.2))])
  | none => .bad
theorem vals_at : ∀ {vs : List Value} {xs : List V}, vs.length = xs.length → (∀ (j : Nat) (v : Value), vs[j]? = some v → ∃ x, xs[j]? = some x ∧ RelV x v) → Vals xs vs
  | [], [], _, _ => .nil
  | [], _ :: _, e, _ => by simp at e
  | _ :: _, [], e, _ => by simp at e
  | v :: vs, x :: xs, e, h => by
    obtain ⟨y, h1, h2⟩ := h 0 v rfl
    simp at h1
    subst h1
    exact .cons h2 (vals_at (by simpa using e) fun j u hu => by simpa using h (j + 1) u (by simpa using hu))
theorem pair_get {α β : Type} {F : α → β → Prop} : ∀ {xs : List α} {ys : List β}, PySem.Paired F xs ys → ∀ {i : Nat} {y : β}, ys[i]? = some y → ∃ x, xs[i]? = some x ∧ F x y
  | _, _, .nil, i, y, e => by simp at e
  | _, _, .cons a b, 0, y, e => by
    simp at e
    subst e
    exact ⟨_, rfl, a⟩
  | _, _, .cons a b, i + 1, y, e => by
    obtain ⟨x, h1, h2⟩ := pair_get b (i := i) (by simpa using e)
    exact ⟨x, by simpa using h1, h2⟩
section
variable {X : Cx} {g : G} {W : WX} {ma : ME} {a : Expr} {p apos q pos : Pos}
end
def dVals : List D → MH → R D
  | [x], h1 => match getK h1 x with
    | some l => .ok (.ref h1.length) (h1 ++ [.lst (l.map (·.2))])
    | none => .bad
  | _, _ => .bad
section
variable {X : Cx} {g : G} {W : WX} {ma : ME} {a : Expr} {p apos q pos : Pos}
end
/-! ### l.index(x), items of any depth -/
def dLIdx : D → List D → MH → R D
  | .ref i, [y], h => match pyOf 60 h y, pyOf 60 h (.ref i) with
    | some d, some (.list es) => if SeqAt.shaped (.list es) = true ∧ SeqAt.shaped d = true then match es.findIdx? fun z => PyData.eqv z d with
      | some j => .ok (.int j) h
      | none => .bad else .bad
    | _, _ => .bad
  | _, _, _ => .bad
end Mi

/-! Dicts whose keys are tuples of whole numbers, texts, None, truths and such tuples: in, not in, d[k], d[k] = v, dict(pairs). -/
namespace Mi
open PySem L2 PySem.Spec PyProof.Rows
/-! ### keys -/
mutual
def NkV (K : PySem.W.Frag) (H : Hp) : NestedKey → V → Prop
  | .none, v => v = .non
  | .num i, v => v = .int i ∨ ∃ b, v = .bl b ∧ i = (if b = true then 1 else 0)
  | .text x, v => v = .str x
  | .tup ks, v => ∃ p xs, v = .ref p ∧ SqT K H p xs ∧ NkVs K H ks xs
def NkVs (K : PySem.W.Frag) (H : Hp) : List NestedKey → List V → Prop
  | [], vs => vs = []
  | k :: ks, vs => ∃ v r, vs = v :: r ∧ NkV K H k v ∧ NkVs K H ks r
end
mutual
theorem nkv_of {g : G} {H : Hp} {μ : List Addr} : ∀ (d : D) (v : V) (k : NestedKey), VR g H μ v d → nkD d = some k → NkV g.K H k v
  | .non, v, k, a, e => by cases a; cases e; exact rfl
  | .bl b, v, k, a, e => by cases a; cases e; exact .inr ⟨b, rfl, rfl⟩
  | .int i, v, k, a, e => by cases a; cases e; exact .inl rfl
  | .str x, v, k, a, e => by cases a; cases e; exact rfl
  | .tup l, v, k, a, e => by
    cases a with
    | tup hs vs =>
      simp only [nkD, Option.map_eq_some_iff] at e
      obtain ⟨ks, e, rfl⟩ := e
      exact ⟨_, _, rfl, hs.sq, nkvs_of l _ ks vs e⟩
  | .ref _, v, k, a, e => by cases e
  | .xo _ _ _, v, k, a, e => by cases e
theorem nkvs_of {g : G} {H : Hp} {μ : List Addr} : ∀ (l : List D) (vs : List V) (ks : List NestedKey), VRs g H μ vs l → nkDs l = some ks → NkVs g.K H ks vs
  | [], vs, ks, a, e => by cases a; cases e; exact rfl
  | d :: l, vs, ks, a, e => by
    cases a with
    | cons a b =>
      unfold nkDs at e
      split at e
      · rename_i k r e1 e2
        cases e
        exact ⟨_, _, rfl, nkv_of d _ k a e1, nkvs_of l _ r b e2⟩
      · cases e
end
section
variable {X : Cx} {pins : List (Addr × Obj)} {σ : L2.St} {H : Hp} {s : Shared}
mutual
theorem nis_of (I : L2.Inv X pins σ H s) : ∀ (k : NestedKey) (v : V) (u : Value), NkV X.K H k v → RelV v u → NestedIs s.heap k u
  | .none, v, u, n, r => by
    obtain rfl : v = .non := n
    cases r
    exact .none
  | .num i, v, u, n, r => by
    rcases n with rfl | ⟨b, rfl, e⟩
    · obtain ⟨t, rfl⟩ := r
      exact .int i t
    · cases r
      exact .bool e
  | .text x, v, u, n, r => by
    obtain rfl : v = .str x := n
    obtain ⟨t, rfl⟩ := r
    exact .text x t
  | .tup ks, v, u, n, r => by
    obtain ⟨p, xs, rfl, hs, hn⟩ := n
    cases r
    obtain ⟨its, rv, ⟨o, ho, hc, m, hd⟩, _⟩ := I.tuple hs
    exact .tup ho hc hd (by simpa using nisAll_of I ks xs its hn rv)
theorem nisAll_of (I : L2.Inv X pins σ H s) : ∀ (ks : List NestedKey) (vs : List V) (us : List Value), NkVs X.K H ks vs → Vals vs us → NestedAll s.heap ks us
  | [], vs, us, n, r => by
    obtain rfl : vs = [] := n
    cases r
    exact .nil
  | k :: ks, vs, us, n, r => by
    obtain ⟨v, q, rfl, h1, h2⟩ := n
    cases r with
    | cons a b => exact .cons (nis_of I k v _ h1 a) (nisAll_of I ks q _ h2 b)
end
end
/-! ### the dict in the heap -/
abbrev NE := List (NestedKey × Addr × Value)
def NKeys (K : PySem.W.Frag) (H : Hp) (xs : NE) : Prop := ∀ e ∈ xs, NkV K H e.1 (.ref e.2.1) ∧ e.1.depth ≤ 8
/-- a dict with such keys, or an empty one -/
def NDct (w : World) (H : Hp) (p : Addr) (xs : NE) : Prop := H p = some (DN w p xs) ∨ (H p = some (.dK []) ∧ xs = [])
section
variable {X : Cx} {pins : List (Addr × Obj)} {σ : L2.St} {H : Hp} {s : Shared} {p : Addr} {xs : NE}
theorem ndct_at (I : L2.Inv X pins σ H s) (h : NDct X.w H p xs) (hk : NKeys X.K H xs) : (p == sysModules) = false ∧ xs.length ≤ sizeLine ∧ s.heap.DictOfH (nestedKind X.prog X.w) p xs := by
  have keys : ∀ x ∈ xs, (nestedKind X.prog X.w).is s.heap x.1 x.2.1 := fun x hx => ⟨nis_of I x.1 (.ref x.2.1) (.ref x.2.1) (hk x hx).1 rfl, (hk x hx).2⟩
  rcases h with h | ⟨h, rfl⟩
  · obtain ⟨⟨z, hd, o, es, ep, h1, h2, h3, h4, h5⟩, _⟩ := I.hok p _ h
    exact ⟨hd, z, o, es, ep, h1, h2, h3, h4, keys, h5⟩
  · obtain ⟨z, hd, vs, rel, o, es, ep, g1, g2, g3, g4, g5, g6⟩ := dk_of I.hok h
    have hv : vs = [] := by
      have := rel.length
      simp at this
      exact List.length_eq_zero_iff.mp this.symm
    subst hv
    have ge : es.toList = [] := by
      cases q : es.toList with
      | nil => rfl
      | cons a b => rw [q] at g5; cases g5
    exact ⟨hd, Nat.zero_le _, o, es, ep, g1, g2, g3, by rw [ge]; rfl, keys, List.nodup_nil⟩
theorem ndct_mut (h : NDct X.w H p xs) : L2.Mut (H p) := by
  rcases h with h | ⟨h, _⟩ <;> rw [h] <;> exact True.intro
theorem ndct_put (I : L2.Inv X pins σ H s) (h : NDct X.w H p xs) {h' : Heap} {t' : Nat} {ys : NE} (hs : Heap.SameBut p s.heap h') (hz : ys.length ≤ sizeLine) (hd : (p == sysModules) = false) (dd : h'.DictOfH (nestedKind X.prog X.w) p ys) :
    L2.Inv X pins σ (upd H p (DN X.w p ys)) { s with heap := h', toks := t' } := by
  obtain ⟨o, es, ep, h1, h2, h3, h4, h5, h6⟩ := dd
  refine d_write I (ndct_mut h) hs ⟨o, h1⟩ ⟨⟨hz, hd, o, es, ep, h1, h2, h3, h4, h6⟩, ⟨o, h1⟩, fun a b ha hb => ?_⟩
  obtain ⟨z, d, o', es', ep', e1, e2⟩ := ha
  exact ⟨z, d, o', es', ep', hb _ e1, e2⟩
end
def rNIn (K : PySem.W.Frag) (w : World) : R2 := fun x y H Q => ∃ a p k xs, x = .ref a ∧ y = .ref p ∧ NkV K H k (.ref a) ∧ k.depth ≤ 8 ∧ NDct w H p xs ∧ NKeys K H xs ∧ Q (.bl (atKey xs k).isSome) H
def rNNotIn (K : PySem.W.Frag) (w : World) : R2 := fun x y H Q => ∃ a p k xs, x = .ref a ∧ y = .ref p ∧ NkV K H k (.ref a) ∧ k.depth ≤ 8 ∧ NDct w H p xs ∧ NKeys K H xs ∧ Q (.bl (!(atKey xs k).isSome)) H
def rNIx (K : PySem.W.Frag) (w : World) : R2 := fun x y H Q => ∃ a p k xs c u v, y = .ref a ∧ x = .ref p ∧ NkV K H k (.ref a) ∧ k.depth ≤ 8 ∧ NDct w H p xs ∧ NKeys K H xs ∧ atKey xs k = some (c, u) ∧ RelV v u ∧ Q v H
def rNSet (K : PySem.W.Frag) (w : World) : V → V → V → Hp → (Hp → Prop) → Prop := fun o i v H Q => ∃ a p k xs, o = .ref p ∧ i = .ref a ∧ NkV K H k (.ref a) ∧ k.depth ≤ 8 ∧ NDct w H p xs ∧ NKeys K H xs ∧ xs.length < sizeLine ∧
  ∀ u, RelV v u → Q (upd H p (DN w p (storedH xs k a u)))
theorem stored_len (xs : NE) (k : NestedKey) (a : Addr) (u : Value) : (storedH xs k a u).length ≤ xs.length + 1 := PySem.storedH_length xs k a u
section
variable {X : Cx}
theorem set_n (hu : X.A.units + 65 < cLine) : PSet X (rNSet X.K X.w) := fun pins s σ H o i v ov iv u Q I ro ri rv ⟨a, p, k, xs, eo, ei, hk, hd, hp, hx, hl, q⟩ => by
  subst eo ei
  cases ro
  cases ri
  obtain ⟨h1, h2, h3⟩ := ndct_at I hp hx
  have e : ((nestedKind X.prog X.w).room X.A.in1) := by
    show X.A.in1.units + 8 < cLine
    have : X.A.in1.units ≤ X.A.units + 1 := by first | exact Nat.le_refl _ | decide | simp [Around.in1]
    omega
  refine wpAny_setItem_heap e ⟨nis_of I k _ _ hk rfl, hd⟩ h3 (fun h' dd hs => ?_) h2
  exact ⟨_, ndct_put I hp hs (Nat.le_trans (stored_len xs k a u) hl) h1 dd, q u rv⟩
end
/-! ### the mirror -/
def nkT (d : D) : Option NestedKey := match d with
  | .tup l => match nkD (.tup l) with
    | some k => if k.depth ≤ 8 then some k else none
    | none => none
  | _ => none
def getN (h : MH) (x : D) : Option (List (NestedKey × D)) := match x with
  | .ref i => match h[i]? with
    | some (.dN l) => some l
    | some (.dK []) => some []
    | _ => none
  | _ => none
def valN (kvs : List (NestedKey × D)) (k : NestedKey) : Option D := (kvs.find? fun x => decide (x.1 = k)).map (·.2)
def putN (kvs : List (NestedKey × D)) (k : NestedKey) (d : D) : List (NestedKey × D) :=
  if (valN kvs k).isSome = true then kvs.map (fun x => if x.1 = k then (x.1, d) else x) else kvs ++ [(k, d)]
section
variable {g : G} {H : Hp} {μ : List Addr} {h : MH}
theorem nkT_of {v : V} {d : D} {k : NestedKey} (vx : VR g H μ v d) (e : nkT d = some k) : ∃ a, v = .ref a ∧ NkV g.K H k (.ref a) ∧ k.depth ≤ 8 ∧ nkD d = some k := by
  unfold nkT at e
  split at e
  · rename_i l
    split at e
    · rename_i k' e1
      split at e
      · rename_i hd
        cases e
        have n := nkv_of _ _ _ vx e1
        cases vx with
        | tup hs vs => exact ⟨_, rfl, n, hd, e1⟩
      · cases e
    · cases e
  · cases e
theorem NR.keys : ∀ {xs : NE} {kvs : List (NestedKey × D)}, NR g H μ xs kvs → NKeys g.K H xs
  | _, _, .nil => fun e he => by simp at he
  | _, _, .cons a e l r v b => fun x hx => by
    rcases List.mem_cons.mp hx with rfl | hx
    · exact ⟨nkv_of _ _ _ a e, l⟩
    · exact NR.keys b x hx
theorem getN_of {x : V} {d : D} {l : List (NestedKey × D)} (hr : HR g H μ h) (vx : VR g H μ x d) (e : getN h d = some l) : ∃ i p xs, d = .ref i ∧ x = .ref p ∧ μ[i]? = some p ∧ NDct g.w H p xs ∧ NR g H μ xs l ∧ (h[i]? = some (.dN l) ∨ (h[i]? = some (.dK []) ∧ l = [])) := by
  cases vx with
  | @ref p i hi =>
    simp only [getN] at e
    split at e
    · rename_i l' q
      cases e
      obtain ⟨xs, h1, h2⟩ := hr.ob _ _ _ hi q
      exact ⟨i, p, xs, rfl, rfl, hi, .inl h1, h2, .inl q⟩
    · rename_i q
      cases e
      obtain ⟨kv, h1, h2⟩ := hr.ob _ _ _ hi q
      cases h2
      exact ⟨i, p, [], rfl, rfl, hi, .inr ⟨h1, rfl⟩, .nil, .inr ⟨q, rfl⟩⟩
    · cases e
  | _ => cases e
theorem NR.val (k : NestedKey) : ∀ {xs : NE} {kvs : List (NestedKey × D)}, NR g H μ xs kvs → (atKey xs k = none ∧ valN kvs k = none) ∨ ∃ a u v d, atKey xs k = some (a, u) ∧ valN kvs k = some d ∧ RelV v u ∧ VR g H μ v d
  | _, _, .nil => .inl ⟨rfl, rfl⟩
  | _, _, @NR.cons _ _ _ k' a u e d v xs ds va ek l r vd b => by
    by_cases c : k' = k
    · refine .inr ⟨a, u, v, d, ?_, ?_, r, vd⟩
      · simp [atKey, List.find?_cons, c]
      · simp [valN, List.find?_cons, c]
    · have e1 : atKey ((k', a, u) :: xs) k = atKey xs k := by simp [atKey, List.find?_cons, c]
      have e2 : valN ((k', d) :: ds) k = valN ds k := by simp [valN, List.find?_cons, c]
      rw [e1, e2]
      exact NR.val k b
theorem NR.some_eq (k : NestedKey) {xs : NE} {kvs : List (NestedKey × D)} (r : NR g H μ xs kvs) : (atKey xs k).isSome = (valN kvs k).isSome := by
  rcases r.val k with ⟨e1, e2⟩ | ⟨a, u, v, d, e1, e2, _⟩ <;> rw [e1, e2] <;> rfl
theorem NR.repl (k : NestedKey) {u : Value} {v : V} {d : D} (ru : RelV v u) (vd : VR g H μ v d) : ∀ {xs : NE} {kvs : List (NestedKey × D)}, NR g H μ xs kvs → NR g H μ (xs.map (putAt k u)) (kvs.map fun x => if x.1 = k then (x.1, d) else x)
  | _, _, .nil => .nil
  | _, _, @NR.cons _ _ _ k' a u' e d' v' xs ds va ek l r vd' b => by
    rw [List.map_cons, List.map_cons]
    by_cases c : k' = k
    · simp only [putAt, c, if_true]
      exact .cons va (c ▸ ek) (c ▸ l) ru vd (NR.repl k ru vd b)
    · simp only [putAt, c, if_false]
      exact .cons va ek l r vd' (NR.repl k ru vd b)
theorem NR.snoc {k : NestedKey} {a : Addr} {u : Value} {e d : D} {v : V} (va : VR g H μ (.ref a) e) (ek : nkD e = some k) (l : k.depth ≤ 8) (ru : RelV v u) (vd : VR g H μ v d) : ∀ {xs : NE} {kvs : List (NestedKey × D)}, NR g H μ xs kvs → NR g H μ (xs ++ [(k, a, u)]) (kvs ++ [(k, d)])
  | _, _, .nil => .cons va ek l ru vd .nil
  | _, _, .cons a1 e1 l1 r1 v1 b => .cons a1 e1 l1 r1 v1 (NR.snoc va ek l ru vd b)
theorem NR.put {k : NestedKey} {a : Addr} {u : Value} {e d : D} {v : V} (va : VR g H μ (.ref a) e) (ek : nkD e = some k) (l : k.depth ≤ 8) (ru : RelV v u) (vd : VR g H μ v d) {xs : NE} {kvs : List (NestedKey × D)} (r : NR g H μ xs kvs) : NR g H μ (storedH xs k a u) (putN kvs k d) := by
  unfold storedH putN
  rw [r.some_eq k]
  split
  · exact r.repl k ru vd
  · exact r.snoc va ek l ru vd
theorem NR.len : ∀ {xs : NE} {kvs : List (NestedKey × D)}, NR g H μ xs kvs → xs.length = kvs.length
  | _, _, .nil => rfl
  | _, _, .cons _ _ _ _ _ b => by rw [List.length_cons, List.length_cons, NR.len b]
end
def dNIn (a b : D) (h : MH) : R D := match nkT a, getN h b with
  | some k, some l => .ok (.bl (valN l k).isSome) h
  | _, _ => .bad
def dNNotIn (a b : D) (h : MH) : R D := match nkT a, getN h b with
  | some k, some l => .ok (.bl (!(valN l k).isSome)) h
  | _, _ => .bad
def dNIx (a b : D) (h : MH) : R D := match getN h a, nkT b with
  | some l, some k => match valN l k with
    | some v => .ok v h
    | none => .bad
  | _, _ => .bad
def dNSet (x y d : D) (h : MH) : R Unit := match x, nkT y, getN h x with
  | .ref i, some k, some l => if l.length < 1000000 then .ok () (h.set i (.dN (putN l k d))) else .bad
  | _, _, _ => .bad
/-- any key: an int, a text, or a tuple of such -/
def dAIn (a b : D) (h : MH) : R D := match keyD a with
  | some _ => dDIn a b h
  | none => dNIn a b h
def dANotIn (a b : D) (h : MH) : R D := match keyD a with
  | some _ => dDNotIn a b h
  | none => dNNotIn a b h
def dAIx (a b : D) (h : MH) : R D := match keyD b with
  | some _ => dDIx a b h
  | none => dNIx a b h
def dASet (x y d : D) (h : MH) : R Unit := match keyD y with
  | some _ => dDSet x y d h
  | none => dNSet x y d h
def mASet (o i e : ME) : MS := fun ρ h => (e ρ h).out ρ fun d h1 => (o ρ h1).out ρ fun x h2 => (i ρ h2).out ρ fun y h3 => (dASet x y d h3).out ρ fun _ h4 => .nx ρ h4
def rAIn (K : PySem.W.Frag) (w : World) : R2 := fun x y H Q => rDIn x y H Q ∨ rNIn K w x y H Q
def rANotIn (K : PySem.W.Frag) (w : World) : R2 := fun x y H Q => rDNotIn x y H Q ∨ rNNotIn K w x y H Q
def rDIxK : R2 := fun x y H Q => ∃ a k kvs v, x = .ref a ∧ y = kV k ∧ H a = some (.dK kvs) ∧ valV kvs k = some v ∧ Q v H
def rAIx (K : PySem.W.Frag) (w : World) : R2 := fun x y H Q => rDIxK x y H Q ∨ rNIx K w x y H Q
section
variable {X : Cx} {g : G} {W : WX}
theorem pset_or {t t' : V → V → V → Hp → (Hp → Prop) → Prop} (a : PSet X t) (b : PSet X t') : PSet X (fun o i v H Q => t o i v H Q ∨ t' o i v H Q) := by
  intro pins s σ H o i v ov iv u Q I ro ri rv h
  rcases h with h | h
  · exact a pins s σ H o i v ov iv u Q I ro ri rv h
  · exact b pins s σ H o i v ov iv u Q I ro ri rv h
variable {o i e : Expr} {mo mi me : ME} {pos p2 : Pos}
theorem sx_aset (hu : X.A.units + 65 < cLine) (ho : PE X o (tE (gOf X.w X.K) W mo)) (hi : PE X i (tE (gOf X.w X.K) W mi)) (he : PE X e (tE (gOf X.w X.K) W me))
    (ha : ∀ v, assign (.Subscript o i p2) X.env v = (do
      let ov ← holding [v] (eval o X.env)
      let iv ← holding [v, ov] (eval i X.env)
      standAt p2
      holding [v, ov, iv] (setItem ov iv v)
      release [v, ov, iv] []) := by intro _; rfl)
    (hs : swapsWithSole [.Subscript o i p2] e pos.line X.env = pure false := by rfl) (hw : swappedStores [.Subscript o i p2] e X.env = pure none := by rfl)
    (h1 : (assignEach [.Subscript o i p2] X.env).map (·.2) = [assign (.Subscript o i p2) X.env] := by rfl) : PS X (.Assign [.Subscript o i p2] e pos) (tS (gOf X.w X.K) W (mASet mo mi me)) :=
  ps_mono (ps_asg he (pg_sub ho hi (pset_or (set_dict hu) (set_n hu)) ha) hs hw h1) fun E σ H ⟨ρ, h, μ, sr, hr, bk⟩ =>
    stepS (rel := VR) (ma := me) (E := E) sr hr bk fun v d h1 H1 μ1 m1 sr1 hr1 vd bk1 => stepS (rel := VR) (ma := mo) (E := E) sr1 hr1 bk1 fun x a h2 H2 μ2 m2 sr2 hr2 vx bk2 => stepS (rel := VR) (ma := mi) (E := E) sr2 hr2 bk2 fun y b h3 H3 μ3 m3 sr3 hr3 vy bk3 => by
      have vx := vx.mono m3
      have vd := (vd.mono m2).mono m3
      unfold dASet at bk3
      split at bk3
      · refine .inl ?_
        unfold dDSet at bk3
        split at bk3
        · rename_i k l e1 _ e2
          obtain ⟨c', p, kv, ec, rfl, hi, q, hp, kr⟩ := getK_of hr3 vx e2
          cases ec
          split at bk3
          · rename_i hl
            refine ⟨p, k, kv, rfl, keyD_of vy e1, hp, by rw [kr.len]; exact sz6' hl, ?_⟩
            have m5 : Mon (gOf X.w X.K) H3 (upd H3 p (.dK (putK kv k v))) μ3 μ3 := (Saf.dK hp).mon
            exact bk3 _ _ μ3 m5 (sr3.mono m5) (hr3.write (u := .dK (putKD l k d)) hi q rfl (Saf.dK hp) rfl ⟨_, upd_same, (kr.put k vd).mono m5⟩)
          · exact bk3.elim
        · exact bk3.elim
      · refine .inr ?_
        unfold dNSet at bk3
        split at bk3
        · rename_i k l e1 _ e2
          obtain ⟨c', p, xs, ec, rfl, hi, hp, nr, hc⟩ := getN_of hr3 vx e2
          cases ec
          obtain ⟨a', rfl, n1, n2, n3⟩ := nkT_of vy e1
          split at bk3
          · rename_i hl
            refine ⟨a', p, k, xs, rfl, rfl, n1, n2, hp, nr.keys, by rw [nr.len]; exact sz6' hl, fun u ru => ?_⟩
            have sf : Saf H3 p := by
              rcases hp with hp | ⟨hp, _⟩
              · exact Saf.dN hp
              · exact Saf.dK hp
            have m5 : Mon (gOf X.w X.K) H3 (upd H3 p (DN X.w p (storedH xs k a' u))) μ3 μ3 := sf.mon
            have nr2 : NR (gOf X.w X.K) (upd H3 p (DN X.w p (storedH xs k a' u))) μ3 (storedH xs k a' u) (putN l k d) := (nr.put vy n3 n2 ru vd).mono m5
            rcases hc with hc | ⟨hc, _⟩
            · exact bk3 _ _ μ3 m5 (sr3.mono m5) (hr3.write (u := .dN (putN l k d)) hi hc rfl sf rfl ⟨_, upd_same, nr2⟩)
            · exact bk3 _ _ μ3 m5 (sr3.mono m5) (hr3.write (u := .dN (putN l k d)) hi hc rfl sf rfl ⟨_, upd_same, nr2⟩)
          · exact bk3.elim
        · exact bk3.elim
end
end Mi

/-! dict(xs) of a list of pairs whose firsts are tuples. -/
namespace Mi
open PySem L2 PySem.Spec PyProof.Rows
/-- a pair as it stands: its address, the key's, the key, the value -/
structure PR4 where
  t : Addr
  a : Addr
  k : NestedKey
  v : V
abbrev PRU := List (PR4 × Value)
def neOf (T : PRU) : NE := T.map fun q => (q.1.k, q.1.a, q.2)
def rDictP (K : PySem.W.Frag) (w : World) : List V → Hp → VK → Prop := fun xs H Q => ∃ (l : Addr) (T : List PR4), xs = [V.ref l] ∧ SqL K H l (T.map fun r => V.ref r.t) ∧ (∀ r ∈ T, SqT K H r.t [V.ref r.a, r.v] ∧ NkV K H r.k (.ref r.a) ∧ r.k.depth ≤ 8) ∧ T.length < sizeLine ∧
  ∀ p (TU : PRU), H p = none → TU.map (·.1) = T → (∀ x ∈ TU, RelV x.1.v x.2) → Q (.ref p) (upd H p (DN w p (PySem.storedAllH [] (neOf TU))))
section
variable {X : Cx}
end
/-! ### the mirror -/
def pairsN : List D → Option (List (NestedKey × D))
  | [] => some []
  | .tup [kd, vd] :: l => match nkT kd, pairsN l with
    | some k, some r => some ((k, vd) :: r)
    | _, _ => none
  | _ :: _ => none
def foldN (acc : List (NestedKey × D)) (l : List (NestedKey × D)) : List (NestedKey × D) := l.foldl (fun a p => putN a p.1 p.2) acc
def dDictP : List D → MH → R D
  | [.ref i], h => match (getL h i).bind pairsN with
    | some l => if l.length < 1000000 then .ok (.ref h.length) (h ++ [.dN (foldN [] l)]) else .bad
    | none => .bad
  | _, _ => .bad
inductive PRR (g : G) (H : Hp) (μ : List Addr) : List PR4 → List (NestedKey × D) → Prop
  | nil : PRR g H μ [] []
  | cons {r : PR4} {e d : D} {T : List PR4} {l : List (NestedKey × D)} : VR g H μ (.ref r.a) e → nkD e = some r.k → r.k.depth ≤ 8 → VR g H μ r.v d → PRR g H μ T l → PRR g H μ (r :: T) ((r.k, d) :: l)
section
variable {g : G} {H H1 : Hp} {μ μ1 : List Addr}
theorem PRR.mono (m : Mon g H H1 μ μ1) : ∀ {T : List PR4} {l : List (NestedKey × D)}, PRR g H μ T l → PRR g H1 μ1 T l
  | _, _, .nil => .nil
  | _, _, .cons a b c d e => .cons (a.mono m) b c (d.mono m) (PRR.mono m e)
theorem PRR.len : ∀ {T : List PR4} {l : List (NestedKey × D)}, PRR g H μ T l → T.length = l.length
  | _, _, .nil => rfl
  | _, _, .cons _ _ _ _ e => by rw [List.length_cons, List.length_cons, PRR.len e]
end
/-! ### the calculus -/
end Mi

/-! A def of a class, called through the class: Base.__init__(self). -/
namespace Mi
open PySem L2 PySem.Spec PyProof.Rows ClX
def Dc (K : PySem.W.Frag) (mg : Str → Option Value) (c x qual : Str) (st : Stmt) (ps : List Str) : Prop :=
  ∃ C mc f fd, mg c = some (.ref C) ∧ CRead K C mc ∧ PySem.W.findCls K (.ref C) mc x = some (.val (.ref f)) ∧ Fun K x qual st f fd ∧ Binds K fd ps []
def CfOf (P : Program) (w : World) (K : PySem.W.Frag) (mg : Str → Option Value) (base : Heap) (c x : Str) (k : Nat) (F : List D → MH → R D) : Prop :=
  ∃ C mc f fd ps, mg c = some (.ref C) ∧ CRead K C mc ∧ PySem.W.findCls K (.ref C) mc x = some (.val (.ref f)) ∧ PySem.W.keepIn K (.ref f) = true ∧ FnOk P w K mg base (L2.CX P w) k f fd ps (spM (gOf w K) F) ∧ Binds K fd ps []
section
variable {P : Program} {w : World} {K : PySem.W.Frag} {mg : Str → Option Value} {base : Heap} {h : Heap}
theorem CfOf.mono {c x : Str} {F : List D → MH → R D} {j k : Nat} (e : CfOf P w K mg base c x j F) (h : j ≤ k) : CfOf P w K mg base c x k F := by
  obtain ⟨C, mc, f, fd, ps, h1, h2, h3, h4, h5, h6⟩ := e
  exact ⟨C, mc, f, fd, ps, h1, h2, h3, h4, h5.mono h, h6⟩
end
section
variable {X : Cx} {W : WX} {e : Expr} {es : List Expr} {mr : MA} {p pos apos : Pos} {c x : Str}
end
end Mi

/-! list.insert(i, x), list.pop(i), i not below 0. -/
namespace Mi
open PySem L2 PySem.Spec PyProof.Rows
def rInsert : V → List V → Hp → VK → Prop := fun x vs H Q => ∃ (l : Addr) (xs : List V) (i : Int) (y : V), x = .ref l ∧ vs = [.int i, y] ∧ H l = some (.lst xs) ∧ xs.length < sizeLine ∧ 0 ≤ i ∧ i < 2 ^ 63 ∧
    Q .non (upd H l (.lst (xs.take i.toNat ++ [y] ++ xs.drop i.toNat)))
theorem VRs.at {g : G} {H : Hp} {μ : List Addr} : ∀ {vs : List V} {ds : List D} {n : Nat} {d : D}, VRs g H μ vs ds → ds[n]? = some d → ∃ v, vs[n]? = some v ∧ VR g H μ v d
  | _, _, n, d, .nil, e => by simp at e
  | _, _, 0, d, .cons a b, e => by simp at e; subst e; exact ⟨_, rfl, a⟩
  | _, _, n + 1, d, .cons a b, e => by
    obtain ⟨v, h1, h2⟩ := VRs.at (n := n) b (by simpa using e)
    exact ⟨v, by simpa using h1, h2⟩
def dInsert : D → List D → MH → R D
  | .ref i, [.int k, d], h => match h[i]? with
    | some (.lst l) => if (0 ≤ k ∧ k < 9223372036854775808) ∧ l.length < 1000000 then .ok .non (h.set i (.lst (l.take k.toNat ++ [d] ++ l.drop k.toNat))) else .bad
    | _ => .bad
  | _, _, _ => .bad
def dPopI : D → List D → MH → R D
  | .ref i, [.int k], h => match h[i]? with
    | some (.lst l) => if 0 ≤ k ∧ k < 9223372036854775808 then match l[k.toNat]? with
      | some d => .ok d (h.set i (.lst (l.eraseIdx k.toNat)))
      | none => .bad else .bad
    | _ => .bad
  | _, _, _ => .bad
/-! ### the calculus -/
end Mi

/-! t[::-1], a tuple or a list. -/
namespace PySem.W
open PySem.Calls PyProof.Rows HT
end PySem.W
namespace Mi
open PySem L2 PySem.Spec PyProof.Rows PySem.W HT
section
variable {prog : Program} {w : World} {A : Around} {E : Value → Shared → Prop} {s : Shared}
end
def tRevT (K : PySem.W.Frag) (te : TE) : TE := fun σ H Q => te σ H fun x H1 => ∃ a xs, x = .ref a ∧ SqT K H1 a xs ∧ ∀ (p : Addr) (ob : Obj), H1 p = none → ob.dict = none → Q (.ref p) (upd H1 p (.frz ob (.tup xs.reverse)))
def dRevA (x : D) (h : MH) : R D := match x with
  | .tup l => .ok (.tup l.reverse) h
  | x => dRevL x h
def mRevA (a : ME) : ME := mUn dRevA a
end Mi

namespace Mi
open PySem L2
end Mi

namespace Mi
open PySem L2
end Mi

/-! A comprehension over a dict's keys (the dict is locked as long as it runs); sorted and min of a list of pairs of whole numbers; sorted of a tuple of texts. -/
namespace Mi
open PySem L2 PySem.Spec PyProof.Rows
/-! ### what stands on when a locked thing is free again -/
structure Mn (g : G) (H H' : Hp) (μ μ' : List Addr) : Prop where
  pre : μ <+: μ'
  tups : ∀ p xs, Tk g.K H p xs → Tk g.K H' p xs
  xs : ∀ p u, isX p u → H p = some u → H' p = some u
section
variable {g : G} {H H1 : Hp} {μ μ1 : List Addr}
mutual
theorem VR.mn (m : Mn g H H1 μ μ1) : ∀ {v : V} {d : D}, VR g H μ v d → VR g H1 μ1 v d
  | _, _, .non => .non
  | _, _, .bl b => .bl b
  | _, _, .int i => .int i
  | _, _, .str x => .str x
  | _, _, .ref h => .ref (by
      obtain ⟨t, e⟩ := m.pre
      rw [← e, List.getElem?_append_left (List.getElem?_eq_some_iff.mp h).1]
      exact h)
  | _, _, .tup h hs => .tup (m.tups _ _ h) (VRs.mn m hs)
  | _, _, .xo h c f v => .xo (m.xs _ _ (.inl ⟨_, _, rfl⟩) h) c (by
      rcases f with f | ⟨dd, fv, e1, e2, e3⟩
      · exact .inl f
      · exact .inr ⟨dd, fv, e1, m.xs _ _ (.inr ⟨_, rfl⟩) e2, e3⟩) (VR.mn m v)
theorem VRs.mn (m : Mn g H H1 μ μ1) : ∀ {vs : List V} {ds : List D}, VRs g H μ vs ds → VRs g H1 μ1 vs ds
  | _, _, .nil => .nil
  | _, _, .cons a b => .cons (VR.mn m a) (VRs.mn m b)
end
theorem KR.mn {κ : Type} (m : Mn g H H1 μ μ1) : ∀ {vs : List (κ × V)} {ds : List (κ × D)}, KR g H μ vs ds → KR g H1 μ1 vs ds
  | _, _, .nil => .nil
  | _, _, .cons a b => .cons (a.mn m) (KR.mn m b)
theorem NR.mn (m : Mn g H H1 μ μ1) : ∀ {xs : List (NestedKey × Addr × Value)} {ds : List (NestedKey × D)}, NR g H μ xs ds → NR g H1 μ1 xs ds
  | _, _, .nil => .nil
  | _, _, .cons a e l r v b => .cons (a.mn m) e l r (v.mn m) (NR.mn m b)
theorem OR.mn_at {p : Addr} {o : MO} (m : Mn g H H1 μ μ1) (k : ∀ u, H p = some u → H1 p = some u) (h : OR g H μ p o) : OR g H1 μ1 p o := by
  cases o with
  | lst ds => obtain ⟨xs, a, b⟩ := h; exact ⟨xs, k _ a, b.mn m⟩
  | rol ds =>
    obtain ⟨xs, a, b⟩ := h
    refine ⟨xs, ?_, b.mn m⟩
    rcases a with ⟨u, a⟩ | a
    · exact .inl ⟨u, k _ a⟩
    · exact .inr a
  | dK kvs => obtain ⟨xs, a, b⟩ := h; exact ⟨xs, k _ a, b.mn m⟩
  | ins c fs => obtain ⟨C, dx, xs, a, c', b⟩ := h; exact ⟨C, dx, xs, k _ a, c', b.mn m⟩
  | dN kvs => obtain ⟨xs, a, b⟩ := h; exact ⟨xs, k _ a, b.mn m⟩
  | fK kvs => obtain ⟨u, xs, a, b⟩ := h; exact ⟨u, xs, k _ a, b.mn m⟩
/-- a locked dict is free again -/
theorem HR.free {h : MH} {i : Nat} {p : Addr} {od : Obj} {kv : List (Key × V)} {l : List (Key × D)} (r : HR g H μ h) (hi : μ[i]? = some p) (hw : h[i]? = some (.fK l)) (hp : H p = some (.frz od (.dK kv))) (m : Mn g H (upd H p (.dK kv)) μ μ) : HR g (upd H p (.dK kv)) μ (h.set i (.dK l)) := by
  have hlt : i < h.length := (List.getElem?_eq_some_iff.mp hw).1
  refine ⟨by rw [List.length_set]; exact r.len, fun j q v hj hv => ?_, fun j k q v x hj hk hv hx m1 m2 => ?_⟩
  · by_cases e : i = j
    · subst e
      rw [List.getElem?_set_self hlt] at hv
      rw [hi] at hj
      cases hj; cases hv
      obtain ⟨o', kv', e1, kr⟩ := r.ob i p _ hi hw
      rw [hp] at e1
      cases e1
      exact ⟨kv, upd_same, kr.mn m⟩
    · rw [List.getElem?_set_ne e] at hv
      have old := r.ob j q v hj hv
      by_cases eq : q = p
      · subst eq
        cases mv : isMut v with
        | true => exact absurd (r.nd i j q _ v hi hj hw hv rfl mv) e
        | false =>
          cases v with
          | rol ds =>
            obtain ⟨xs, a, b⟩ := old
            refine ⟨xs, ?_, b.mn m⟩
            rcases a with ⟨u', a⟩ | a
            · rw [hp] at a; cases a
            · exact .inr a
          | lst ds => cases mv
          | dK kvs => cases mv
          | ins c fs => cases mv
          | dN kvs => cases mv
          | fK kvs => cases mv
      · exact old.mn_at m fun u eu => by rw [upd_ne eq]; exact eu
  · have key : ∀ (j : Nat) (v : MO), (h.set i (.dK l))[j]? = some v → isMut v = true → ∃ v', h[j]? = some v' ∧ isMut v' = true := fun j v hv mv => by
      by_cases e : i = j
      · subst e; exact ⟨_, hw, rfl⟩
      · rw [List.getElem?_set_ne e] at hv; exact ⟨v, hv, mv⟩
    obtain ⟨v', hv', mv'⟩ := key j v hv m1
    obtain ⟨x', hx', mx'⟩ := key k x hx m2
    exact r.nd j k q v' x' hj hk hv' hx' mv' mx'
end
/-! ### the lock -/
def mLock (k : Nat) (m : ME) : ME := fun ρ h => match ρ[k]? with
  | some (some (.ref i)) => match h[i]? with
    | some (.dK l) => (m ρ (h.set i (.fK l))).bind fun y h' => match h'[i]? with
      | some (.fK l') => .ok y (h'.set i (.dK l'))
      | _ => .bad
    | _ => .bad
  | _ => .bad
section
variable {X : Cx} {g : G} {W : WX} {e : Expr} {m : ME}
/-! ### its keys -/
def kD : Key → D
  | .inl i => .int i
  | .inr x => .str x
def mKeysF (ma : ME) : MI := fun ρ h => (ma ρ h).bind fun x h1 => match x with
  | .ref i => match h1[i]? with
    | some (.fK l) => .ok (l.map (fun p => kD p.1), yes) h1
    | _ => .bad
  | _ => .bad
end
end Mi

namespace Mi
open PySem L2 PySem.Spec PyProof.Rows
def leP (p q : Int × Int) : Bool := decide (p.1 < q.1 ∨ (p.1 = q.1 ∧ p.2 ≤ q.2))
def sortP (l : List (Int × Int)) : List (Int × Int) := l.mergeSort leP
def pairD (p : Int × Int) : D := .tup [.int p.1, .int p.2]
def allPair : List D → Option (List (Int × Int))
  | [] => some []
  | .tup [.int a, .int b] :: l => (allPair l).map ((a, b) :: ·)
  | _ => none
def encP (b : Int × Int) : PyData := .tuple [.int b.1, .int b.2]
def PairV (K : PySem.W.Frag) (H : Hp) (x : V) (b : Int × Int) : Prop := ∃ q, x = .ref q ∧ Tk K H q [.int b.1, .int b.2]
abbrev PairsV (K : PySem.W.Frag) (H : Hp) : List V → List (Int × Int) → Prop := PySem.W.EachIs (PairV K H)
def rSortP (K : PySem.W.Frag) : List V → Hp → VK → Prop := fun xs H Q => ∃ p ys bs, xs = [V.ref p] ∧ SqL K H p ys ∧ PairsV K H ys bs ∧ ∀ zs r, PairsV K H zs (sortP bs) → H r = none → Q (.ref r) (upd H r (.lst zs))
section
variable {X : Cx} {pins : List (Addr × Obj)} {σ : L2.St} {H : Hp} {s : Shared}
end
def dSortP : List D → MH → R D
  | [x], h => match x with
    | .ref i => match getL h i with
      | some l => match allPair l with
        | some ps => .ok (.ref h.length) (h ++ [.lst ((sortP ps).map pairD)])
        | none => .bad
      | none => .bad
    | _ => .bad
  | _, _ => .bad
/-! ### sorted of a tuple of texts -/
def rSortTu (K : PySem.W.Frag) : List V → Hp → VK → Prop := fun xs H Q => ∃ p ys, xs = [V.ref p] ∧ SqT K H p (ys.map V.str) ∧ ∀ r, H r = none → Q (.ref r) (upd H r (.lst ((sortS ys).map V.str)))
def dSortTu : List D → MH → R D
  | [x], h => match x with
    | .tup l => match allStr l with
      | some ys => .ok (.ref h.length) (h ++ [.lst ((sortS ys).map .str)])
      | none => .bad
    | _ => .bad
  | _, _ => .bad
end Mi

/-! tuple.index of a whole number. -/
namespace Mi
open PySem L2 PySem.Spec PyProof.Rows
section
variable {X : Cx} {g : G} {W : WX} {a b : Expr} {ma mb : ME} {pos : Pos}
def dTIdxI (x y : D) (h : MH) : R D := match x, y with
  | .tup l, .int k => match allInt l with
    | some ns => if k ∈ ns then .ok (.int (ns.idxOf k : Nat)) h else .bad
    | none => .bad
  | _, _ => .bad
def mTIndexI (a b : ME) : ME := fun ρ h => (a ρ h).bind fun x h1 => match x with
  | .tup l => (b ρ h1).bind fun y h2 => dTIdxI (.tup l) y h2
  | _ => .bad
end
/-! the calculus -/
section
variable {Q : D → MH → Prop} {E : XE} {h : MH} {ρ : Slots}
end
end Mi

/-! list.extend of a tuple. -/
namespace Mi
open PySem L2 PySem.Spec PyProof.Rows
open AutoSeq1 (wpAny_loadPart')
def rExtTu (K : PySem.W.Frag) : V → List V → Hp → VK → Prop := fun x vs H Q => ∃ l b xs zs, x = .ref l ∧ vs = [.ref b] ∧ H l = some (.lst xs) ∧ SqT K H b zs ∧ xs.length + zs.length ≤ sizeLine ∧ Q .non (upd H l (.lst (xs ++ zs)))
def dExtTu : D → List D → MH → R D
  | .ref i, [x], h => match x with
    | .tup m => match h[i]? with
      | some (.lst l) => if l.length + m.length ≤ 1000000 then .ok .non (h.set i (.lst (l ++ m))) else .bad
      | _ => .bad
    | _ => .bad
  | _, _, _ => .bad
end Mi

namespace Mi
open PySem L2
end Mi

/-! dict.get and dict.setdefault (keys whole numbers, texts, tuples); min of whole numbers and of pairs of them. -/
namespace Mi
open PySem L2 PySem.Spec PyProof.Rows
def IsDN (w : World) (H : Hp) (a : Addr) : Prop := (∃ kvs, H a = some (.dK kvs)) ∨ ∃ xs, H a = some (DN w a xs)
def rGetA (K : PySem.W.Frag) (w : World) (x y z : V) (H : Hp) (Q : VK) : Prop :=
  (∃ a k kvs, x = .ref a ∧ y = kV k ∧ H a = some (.dK kvs) ∧ Q ((valV kvs k).getD z) H) ∨
  ∃ c p k xs, x = .ref p ∧ y = .ref c ∧ NkV K H k (.ref c) ∧ k.depth ≤ 8 ∧ NDct w H p xs ∧ NKeys K H xs ∧ (∀ c' u, atKey xs k = some (c', u) → ∃ v, RelV v u ∧ Q v H) ∧ (atKey xs k = none → Q z H)
def rSetA (K : PySem.W.Frag) (w : World) (x y z : V) (H : Hp) (Q : VK) : Prop :=
  (∃ a k kvs, x = .ref a ∧ y = kV k ∧ H a = some (.dK kvs) ∧ kvs.length < sizeLine ∧ (∀ v, valV kvs k = some v → Q v H) ∧ (valV kvs k = none → Q z (upd H a (.dK (putK kvs k z))))) ∨
  ∃ c p k xs, x = .ref p ∧ y = .ref c ∧ NkV K H k (.ref c) ∧ k.depth ≤ 8 ∧ NDct w H p xs ∧ NKeys K H xs ∧ xs.length < sizeLine ∧ (∀ c' u, atKey xs k = some (c', u) → ∃ v, RelV v u ∧ Q v H) ∧ (atKey xs k = none → ∀ u, RelV z u → Q z (upd H p (DN w p (storedH xs k c u))))
def tDM2 (w : World) (r : V → V → V → Hp → VK → Prop) (td ty tx : TE) : TE := fun σ H Q => td σ H fun x H1 => ∃ a, x = .ref a ∧ IsDN w H1 a ∧ ty σ H1 fun y H2 => tx σ H2 fun z H3 => r x y z H3 Q
section
variable {X : Cx} {pins : List (Addr × Obj)} {σ : L2.St} {H : Hp} {s : Shared} {a : Addr}
theorem isDN_at (I : L2.Inv X pins σ H s) (d : IsDN X.w H a) : s.TypeIs (.ref a) "dict" ∧ ∀ b, Value.ref a = .ref b → ∃ ob, s.heap.get? b = some ob ∧ ob.dict = none := by
  rcases d with ⟨kvs, e⟩ | ⟨xs, e⟩
  · obtain ⟨z, hd, vs, rel, dd⟩ := dk_of I.hok e
    refine ⟨dd.typeIs, fun b q => ?_⟩
    cases q
    obtain ⟨ob, _, _, h1, h2, _⟩ := dd
    exact ⟨ob, h1, h2.2.1⟩
  · obtain ⟨⟨z, hd, o, es, ep, h1, h2, h3, h4, h5⟩, _⟩ := I.hok a _ e
    refine ⟨⟨o, h1, h2.1⟩, fun b q => ?_⟩
    cases q
    exact ⟨o, h1, h2.2.1⟩
theorem room35 (hu : X.A.units + 65 < cLine) : (nestedKind X.prog X.w).room X.A.in1 := by
  show X.A.in1.units + 8 < cLine
  have : X.A.in1.units ≤ X.A.units + 1 := by first | exact Nat.le_refl _ | decide | simp [Around.in1]
  omega
theorem call_setA (hu : X.A.units + 65 < cLine) {x y z : V} {u1 u2 u3 : Value} {Q : VK} (I : L2.Inv X pins σ H s) (r1 : RelV x u1) (r2 : RelV y u2) (r3 : RelV z u3) (h : rSetA X.K X.w x y z H Q) :
    wpAny (model X.prog X.w) X.A (call (.builtin "dict.setdefault") [u1, u2, u3]) (EP X pins σ Q) X.xe s := by
  rcases h with ⟨a, k, kvs, rfl, rfl, e, hl, q1, q2⟩ | ⟨c, p, k, xs, rfl, rfl, hk, hd, hp, hx, hl, q1, q2⟩
  · cases r1
    exact d_setd I e r2 r3 hl (fun v hv w' s' I' r' => ⟨v, H, I', r', q1 v hv⟩) fun hn w' s' I' r' => ⟨z, _, I', r', q2 hn⟩
  · cases r1
    cases r2
    obtain ⟨h1, h2, h3⟩ := ndct_at I hp hx
    refine call_setdefault_heap (room35 hu) ⟨nis_of I k _ _ hk rfl, hd⟩ h1 h3 (fun cu e => ?_) (fun e h' dd hs => ?_) h2
    · obtain ⟨c', u⟩ := cu
      obtain ⟨v, rv, qv⟩ := q1 c' u e
      exact ⟨v, H, I.tok _, rv, qv⟩
    · exact ⟨z, _, ndct_put I hp hs (Nat.le_trans (stored_len xs k c u3) hl) h1 dd, r3, q2 e u3 r3⟩
end
section
variable {X : Cx} {o e f : Expr} {td ty tx : TE} {apos cpos : Pos}
theorem pe_setA (hu : X.A.units + 65 < cLine) (ho : PE X o td) (he : PE X e ty) (hf : PE X f tx) (m : M2 X o "setdefault" apos e f cpos) : PE X (.Call (.Attribute o "setdefault" apos) [e, f] [] cpos) (tDM2 X.w (rSetA X.K X.w) td ty tx) := by
  refine ⟨fun pins s σ H Q I h => ?_⟩
  refine wpAny_Call_method m.base m.few m.line PySem.F.plainAttrs_dict PySem.F.slot_dict_setdefault PySem.F.type_dict_setdefault (thn (ho.run pins s σ H _ I h) fun u s1 ⟨x, H1, I1, rx, a, ex, d, q1⟩ => ?_)
  subst ex
  obtain rfl : u = Value.ref a := rx
  obtain ⟨t1, t2⟩ := isDN_at I1 d
  refine ⟨t1, t2, ?_⟩
  rw [m.trees]
  refine Calls.callWith_builtin rfl (Calls.evalArgs_plain (Calls.spliced_cons (thn (he.run pins s1 σ H1 _ I1 q1) fun iv s2 ⟨y, H2, I2, ry, q2⟩ =>
    Calls.spliced_cons (thn (hf.run pins s2 σ H2 _ I2 q2) fun fv s3 ⟨z, H3, I3, rz, q3⟩ => Calls.spliced_nil ?_))))
  exact call_setA hu I3 (show L2.RelV (V.ref a) (Value.ref a) from rfl) ry rz q3
end
/-! ### the mirror -/
def isDctD (x : D) (h : MH) : Bool := match x with
  | .ref i => match h[i]? with
    | some (.dK _) => true
    | some (.dN _) => true
    | _ => false
  | _ => false
def dGetA (x y z : D) (h : MH) : R D := match keyD y with
  | some k => match getK h x with
    | some l => .ok ((valD l k).getD z) h
    | none => .bad
  | none => match nkT y, getN h x with
    | some k, some l => .ok ((valN l k).getD z) h
    | _, _ => .bad
def dSetA (x y z : D) (h : MH) : R D := match x with
  | .ref i => match keyD y with
    | some k => match getK h (.ref i) with
      | some l => if l.length < 1000000 then match valD l k with
        | some v => .ok v h
        | none => .ok z (h.set i (.dK (putKD l k z))) else .bad
      | none => .bad
    | none => match nkT y, getN h (.ref i) with
      | some k, some l => if l.length < 1000000 then match valN l k with
        | some v => .ok v h
        | none => .ok z (h.set i (.dN (putN l k z))) else .bad
      | _, _ => .bad
  | _ => .bad
def mDM (F : D → D → D → MH → R D) (o e f : ME) : ME := fun ρ h => (o ρ h).bind fun x h1 => if isDctD x h1 = true then (e ρ h1).bind fun y h2 => (f ρ h2).bind fun z h3 => F x y z h3 else .bad
section
variable {g : G} {H : Hp} {μ : List Addr} {h : MH}
theorem isDctD_of {v : V} {d : D} (hr : HR g H μ h) (vx : VR g H μ v d) (e : isDctD d h = true) : ∃ a, v = .ref a ∧ IsDN g.w H a := by
  cases vx with
  | @ref p i hi =>
    simp only [isDctD] at e
    split at e
    · rename_i l q
      obtain ⟨kv, h1, _⟩ := hr.ob _ _ _ hi q
      exact ⟨p, rfl, .inl ⟨kv, h1⟩⟩
    · rename_i l q
      obtain ⟨xs, h1, _⟩ := hr.ob _ _ _ hi q
      exact ⟨p, rfl, .inr ⟨xs, h1⟩⟩
    · cases e
  | _ => cases e
end
def S3 (g : G) (r : V → V → V → Hp → VK → Prop) (F : D → D → D → MH → R D) : Prop := ∀ (H : Hp) (μ : List Addr) (h : MH) (x y z : V) (a b c : D) (Q : VK) (W : XK), HR g H μ h → VR g H μ x a → VR g H μ y b → VR g H μ z c → Bk (VR g) g H μ (F a b c h) Q W → r x y z H Q
section
variable {g : G}
theorem s3_setA : S3 g (rSetA g.K g.w) dSetA := by
  intro H μ h x y z a b c Q W hr vx vy vz bk
  unfold dSetA at bk
  split at bk
  · split at bk
    · rename_i k ek
      split at bk
      · rename_i l el
        obtain ⟨i, p, kv, ei, rfl, hi, q, hp, kr⟩ := getK_of hr vx el
        cases ei
        split at bk
        · rename_i hl
          refine .inl ⟨p, k, kv, rfl, keyD_of vy ek, hp, by rw [kr.len]; exact sz6' hl, fun v hv => ?_, fun hv => ?_⟩
          · rcases kr.val k with ⟨e1, e2⟩ | ⟨v', d, e1, e2, e3⟩
            · rw [hv] at e1; cases e1
            · rw [hv] at e1
              cases e1
              rw [e2] at bk
              exact bk.val hr e3
          · rcases kr.val k with ⟨e1, e2⟩ | ⟨v', d, e1, e2, e3⟩
            · rw [e2] at bk
              have m5 : Mon g H (upd H p (.dK (putK kv k z))) μ μ := (Saf.dK hp).mon
              exact bk _ _ μ m5 (hr.write (u := .dK (putKD l k c)) hi q rfl (Saf.dK hp) rfl ⟨_, upd_same, (kr.put k vz).mono m5⟩) (vz.mono m5)
            · rw [hv] at e1; cases e1
        · exact bk.elim
      · exact bk.elim
    · split at bk
      · rename_i k l e1 e2
        obtain ⟨c', rfl, n1, n2, n3⟩ := nkT_of vy e1
        obtain ⟨i, p, xs, ei, rfl, hi, hp, nr, hc⟩ := getN_of hr vx e2
        cases ei
        split at bk
        · rename_i hl
          refine .inr ⟨c', p, k, xs, rfl, rfl, n1, n2, hp, nr.keys, by rw [nr.len]; exact sz6' hl, fun c2 u e => ?_, fun e u ru => ?_⟩
          · rcases nr.val k with ⟨z1, z2⟩ | ⟨a', u', v', d', z1, z2, z3, z4⟩
            · rw [e] at z1; cases z1
            · rw [e] at z1
              cases z1
              rw [z2] at bk
              exact ⟨v', z3, bk.val hr z4⟩
          · rcases nr.val k with ⟨z1, z2⟩ | ⟨a', u', v', d', z1, z2, z3, z4⟩
            · rw [z2] at bk
              have sf : Saf H p := by
                rcases hp with hp | ⟨hp, _⟩
                · exact Saf.dN hp
                · exact Saf.dK hp
              have m5 : Mon g H (upd H p (DN g.w p (storedH xs k c' u))) μ μ := sf.mon
              have nr2 : NR g (upd H p (DN g.w p (storedH xs k c' u))) μ (storedH xs k c' u) (putN l k c) := (nr.put vy n3 n2 ru vz).mono m5
              rcases hc with hc | ⟨hc, _⟩
              · exact bk _ _ μ m5 (hr.write (u := .dN (putN l k c)) hi hc rfl sf rfl ⟨_, upd_same, nr2⟩) (vz.mono m5)
              · exact bk _ _ μ m5 (hr.write (u := .dN (putN l k c)) hi hc rfl sf rfl ⟨_, upd_same, nr2⟩) (vz.mono m5)
            · rw [e] at z1; cases z1
        · exact bk.elim
      · exact bk.elim
  · exact bk.elim
end
section
variable {X : Cx} {W : WX} {o e f : Expr} {mo me mf : ME} {apos cpos : Pos} {r : V → V → V → Hp → VK → Prop} {F : D → D → D → MH → R D}
theorem se_dm {ex : Expr} (hp : ∀ td ty tx, PE X o td → PE X e ty → PE X f tx → PE X ex (tDM2 X.w r td ty tx)) (hs : S3 (gOf X.w X.K) r F) (ho : PE X o (tE (gOf X.w X.K) W mo)) (he : PE X e (tE (gOf X.w X.K) W me)) (hf : PE X f (tE (gOf X.w X.K) W mf)) : PE X ex (tE (gOf X.w X.K) W (mDM F mo me mf)) :=
  pe_mono (hp _ _ _ ho he hf) fun σ H Q ⟨ρ, h, μ, sr, hr, bk⟩ =>
    step (rel := VR) (rel' := VR) (ma := mo) (Q' := Q) sr hr bk fun x a h1 H1 μ1 m1 sr1 hr1 vx bk1 => by
      split at bk1
      · rename_i hd
        obtain ⟨p, rfl, isd⟩ := isDctD_of hr1 vx hd
        refine ⟨p, rfl, isd, ?_⟩
        exact step (rel := VR) (rel' := VR) (ma := me) (Q' := Q) sr1 hr1 bk1 fun y b h2 H2 μ2 m2 sr2 hr2 vy bk2 => step (rel := VR) (rel' := VR) (ma := mf) (Q' := Q) sr2 hr2 bk2 fun z c h3 H3 μ3 m3 sr3 hr3 vz bk3 =>
          hs H3 μ3 h3 _ y z a b c Q _ hr3 ((vx.mono m2).mono m3) (vy.mono m3) vz bk3
      · exact bk1.elim
theorem se_setA (hu : X.A.units + 65 < cLine) (ho : PE X o (tE (gOf X.w X.K) W mo)) (he : PE X e (tE (gOf X.w X.K) W me)) (hf : PE X f (tE (gOf X.w X.K) W mf))
    (hbase : attributeBase o "setdefault" X.env (eval o X.env) = eval o X.env := by rfl)
    (hfew : ((backTo cpos (starEach [e, f] X.env)).all (fun x => !x.1) && (backToKw cpos (keywordEach [] X.env)).all (fun x => x.1.isSome)
      && decide (([e, f] : List Expr).length + ([] : List Keyword).length + (if ([] : List Keyword).isEmpty then 0 else 1) < 30)) = true := by rfl)
    (hline : (apos.endLine == cpos.line) = true := by rfl) (htr : backTo cpos (starEach [e, f] X.env) = [(false, eval e X.env), (false, eval f X.env)] := by rfl) :
    PE X (.Call (.Attribute o "setdefault" apos) [e, f] [] cpos) (tE (gOf X.w X.K) W (mDM dSetA mo me mf)) :=
  se_dm (fun _ _ _ a b c => pe_setA hu a b c ⟨hbase, hfew, hline, htr⟩) s3_setA ho he hf
end
/-! ### min -/
def ltP (p q : Int × Int) : Bool := decide (p.1 < q.1 ∨ (p.1 = q.1 ∧ p.2 < q.2))
def minP : List (Int × Int) → Int × Int
  | [] => (0, 0)
  | b :: bs => bs.foldl (fun a y => if ltP y a then y else a) b
def minI : List Int → Int
  | [] => 0
  | b :: bs => bs.foldl min b
def rMinP (K : PySem.W.Frag) : List V → Hp → VK → Prop := fun xs H Q => ∃ p ys bs, xs = [V.ref p] ∧ SqL K H p ys ∧ PairsV K H ys bs ∧ 0 < bs.length ∧ ∀ z, PairV K H z (minP bs) → Q z H
def rMinA (K : PySem.W.Frag) : List V → Hp → VK → Prop := fun xs H Q => rMin K xs H Q ∨ rMinP K xs H Q
section
variable {X : Cx} {pins : List (Addr × Obj)} {σ : L2.St} {H : Hp} {s : Shared}
end
def dMinA : List D → MH → R D
  | [x], h => match x with
    | .ref i => match (getL h i).bind allInt with
      | some ns => if 0 < ns.length then .ok (.int (minI ns)) h else .bad
      | none => match (getL h i).bind allPair with
        | some ps => if 0 < ps.length then .ok (pairD (minP ps)) h else .bad
        | none => .bad
    | _ => .bad
  | _, _ => .bad
/-! ### x >> y -/
def dShr : D → D → MH → R D
  | .int i, .int j, h => if 0 ≤ j then .ok (.int (i / 2 ^ j.toNat)) h else .bad
  | _, _, _ => .bad
/-! ### the calculus -/
section
variable {Q : D → MH → Prop} {E : XE} {h : MH} {ρ : Slots}
theorem w_dm {F : D → D → D → MH → R D} {o e f : ME} (q : Sat (o ρ h) (fun x h1 => isDctD x h1 = true ∧ Sat (e ρ h1) (fun y h2 => Sat (f ρ h2) (fun z h3 => Sat (F x y z h3) Q E) E) E) E) : Sat (mDM F o e f ρ h) Q E :=
  Sat.bnd (q.monoE (fun x h1 ⟨a, z⟩ => by
    rw [if_pos a]
    exact Sat.bnd (z.monoE (fun _ _ z => Sat.bnd z) fun _ _ _ z => z)) fun _ _ _ z => z)
theorem isDctD_K {i : Nat} {l : List (Key × D)} (e : h[i]? = some (.dK l)) : isDctD (.ref i) h = true := by simp only [isDctD, e]
theorem isDctD_N {i : Nat} {l : List (NestedKey × D)} (e : getN h (.ref i) = some l) : isDctD (.ref i) h = true := by
  simp only [getN] at e
  simp only [isDctD]
  split at e
  · rename_i q; rw [q]
  · rename_i q; rw [q]
  · cases e
theorem w_setK {i : Nat} {l : List (Key × D)} {y z : D} {k : Key} (ey : keyD y = some k) (e : h[i]? = some (.dK l)) (hl : l.length < 1000000) (q1 : ∀ v, valD l k = some v → Q v h) (q2 : valD l k = none → Q z (h.set i (.dK (putKD l k z)))) : Sat (dSetA (.ref i) y z h) Q E := by
  simp only [dSetA, ey, getK_ref e, if_pos hl]
  cases c : valD l k with
  | some v => exact w_ok (q1 v c)
  | none => exact w_ok (q2 c)
theorem w_setN {i : Nat} {l : List (NestedKey × D)} {y z : D} {k : NestedKey} (c : keyD y = none) (ey : nkT y = some k) (e : getN h (.ref i) = some l) (hl : l.length < 1000000) (q1 : ∀ v, valN l k = some v → Q v h) (q2 : valN l k = none → Q z (h.set i (.dN (putN l k z)))) : Sat (dSetA (.ref i) y z h) Q E := by
  simp only [dSetA, c, ey, e, if_pos hl]
  cases c : valN l k with
  | some v => exact w_ok (q1 v c)
  | none => exact w_ok (q2 c)
end
end Mi

namespace Mi
open PySem L2
end Mi

/-! list(d), sorted(d) of a dict with whole numbers as keys. -/
namespace Mi
open PySem L2 PySem.Spec PyProof.Rows
def leI (a b : Int) : Bool := decide (a ≤ b)
theorem sort_dataI (ys : List Int) : ys.mergeSort (PySem.W.dataLe false PyData.int) = sortI ys := by
  have : PySem.W.dataLe false PyData.int = leI := by
    funext a b
    have := congrFun (congrFun (PySem.W.dataLe_int (fun z : Int => z)) a) b
    exact this
  rw [this]
  rfl
theorem each_ints36 : ∀ {vs : List Value} {ys : List Int}, (∀ (j : Nat) (v : Value), vs[j]? = some v → ∃ (y : Int) (t : Tok), ys[j]? = some y ∧ v = Value.int y t) → vs.length = ys.length → PySem.W.EachIs (fun v y => ∃ t, v = Value.int y t) vs ys
  | [], [], _, _ => .nil
  | [], _ :: _, _, e => by simp at e
  | _ :: _, [], _, e => by simp at e
  | v :: vs, y :: ys, h, e => by
    obtain ⟨y', t, h1, h2⟩ := h 0 v rfl
    simp at h1
    subst h1
    exact .cons ⟨t, h2⟩ (each_ints36 (fun j u hu => by simpa using h (j + 1) u (by simpa using hu)) (by simpa using e))
theorem vals_each36 : ∀ {out : List Value} {ys : List Int}, PySem.W.EachIs (fun v y => ∃ t, v = Value.int y t) out ys → Vals (ys.map V.int) out
  | _, _, .nil => .nil
  | _, _, .cons ⟨t, e⟩ r => .cons ⟨t, e⟩ (vals_each36 r)
def rSortKI : List V → Hp → VK → Prop := fun xs H Q => ∃ (a : Addr) (kvs : List (Key × V)) (ys : List Int), xs = [V.ref a] ∧ H a = some (.dK kvs) ∧ kvs.map (·.1) = ys.map Sum.inl ∧ ∀ p, H p = none → Q (.ref p) (upd H p (.lst ((sortI ys).map V.int)))
theorem cr_sortKI {X : Cx} (hu : X.A.units + 65 < cLine) (hc : X.calm = true) : CallR X (.builtin "sorted") rSortKI := by
  intro pins s σ H xs us Q I rr hh
  obtain ⟨a, kvs, ys, rfl, ea, ek, q⟩ := hh
  rw [Vals.ref1 rr]
  obtain ⟨z, hd, vs, rel, o, es, ep, g1, g2, g3, g4, g5, g6⟩ := dk_of I.hok ea
  have da : s.heap.DictAt (mixKind X.prog X.w) a vs ep := ⟨o, es, g1, g2, g3, g4, g5, g6⟩
  have src := PySem.W.kdl_dict (prog := X.prog) (w := X.w) (knd := mixKind X.prog X.w) (kvs := vs) (ep := ep) hd
  have hvk : vs.map (·.1) = ys.map Sum.inl := by rw [← ek]; exact rel.keys.symm
  have hvl : vs.length = ys.length := by have := congrArg List.length hvk; simpa using this
  have hz : vs.length ≤ sizeLine := by rw [← rel.length]; exact z
  apply Calls.call_function_entry kind_sorted plain_sorted entry_sorted (args_sorted1 _)
  unfold Builtin.«sorted»
  apply wpAny_bind (m := checkCount "sorted" 1 1 _)
  apply wpAny_pure
  apply wpAny_bind
  apply PySem.W.kdu_collect (A := X.A.in1) src (I.ok.hd hc) da hz
  intro h' tk acc hk hacc
  have hal : acc.toList.length = ys.length := by rw [Array.length_toList, hacc.1]; exact hvl
  have he : PySem.W.EachIs (fun v y => ∃ t, v = Value.int y t) acc.toList ys := each_ints36 (fun j v e => by
    obtain ⟨k, x, e1, e2⟩ := hacc.2 j v (by rw [← Array.getElem?_toList]; exact e)
    have e3 : (vs.map (·.1))[j]? = some k := by rw [List.getElem?_map, e1]; rfl
    rw [hvk, List.getElem?_map, Option.map_eq_some_iff] at e3
    obtain ⟨y, e4, rfl⟩ := e3
    rcases keyIs_shape (k := Sum.inl y) (v := v) (show keyIs _ _ = true from e2) with ⟨i, t, e5, e6⟩ | ⟨x', t, e5, e6⟩
    · cases e5; exact ⟨_, t, e4, e6⟩
    · cases e5) hal
  apply wpAny_bind
  apply wpAny_newList
  · have p0 : s.heap.get? h'.objs.size = none := by
      cases e : s.heap.get? h'.objs.size with
      | none => rfl
      | some o => exact absurd (Heap.lt_size (hk _ _ e)) (Nat.lt_irrefl _)
    have pH := hok_none I.hok p0
    have at' : (h'.push { cls := .type "list", data := .seq acc.toList.toArray }).get? h'.objs.size = some (seqObj "list" acc.toList.toArray 0) := Heap.get?_push_size _ rfl
    refine wpAny_bind (wpAny_holding ?_)
    refine PySem.W.list_sort_data (s := { s with heap := h'.push { cls := .type "list", data := .seq acc.toList.toArray }, toks := tk }) (enc := PyData.int) (R := fun v y => ∃ t, v = Value.int y t) (bs := ys) at' he
      (he.mono fun v y ⟨t, e⟩ => ⟨[], by rw [e]; exact .int _ _, by simp⟩) (PySem.W.AllAlike.of fun _ _ => rfl) (PySem.W.Sortable.others fun _ => ⟨nofun, nofun⟩) (by rw [← hvl]; exact hz) (fun y _ => ?_) fun out ho hR => ?_
    · show X.A.in1.units + 1 + 0 < cLine
      have : X.A.in1.units ≤ X.A.units + 1 := by first | exact Nat.le_refl _ | decide | simp [Around.in1]
      omega
    · rw [sort_dataI] at hR
      obtain ⟨e2, he2⟩ := sortedHeap_at (vs := acc.toList) (out := out.toArray) at'
      refine wpAny_pure ⟨_, rfl, .ref h'.objs.size, upd H h'.objs.size (.lst ((sortI ys).map V.int)), ?_, rfl, q _ pH⟩
      refine I.laidN (t' := tk) (fun b u e => ?_) p0 pH ⟨?_, out, e2, vals_each36 hR, he2⟩
      · have hb := hk b u e
        rw [sortedHeap_old (Nat.ne_of_lt (Heap.lt_size hb)) (by rw [Heap.size_push]; exact Nat.lt_succ_of_lt (Heap.lt_size hb))]
        exact Heap.get?_push_of_some _ hb
      · rw [List.length_map]
        have := (List.mergeSort_perm ys leI).length_eq
        show (ys.mergeSort leI).length ≤ _
        rw [this, ← hvl]
        exact hz
  · rw [hal, ← hvl]; exact hz
/-- the keys, all of them whole numbers -/
def intKeys : List (Key × D) → Option (List Int)
  | [] => some []
  | (.inl x, _) :: l => (intKeys l).map (x :: ·)
  | (.inr _, _) :: _ => none
def dSortKI : List D → MH → R D
  | [x], h => match getK h x with
    | some l => match intKeys l with
      | some ys => .ok (.ref h.length) (h ++ [.lst ((sortI ys).map .int)])
      | none => .bad
    | none => .bad
  | _, _ => .bad
theorem intKeys_of {g : G} {H : Hp} {μ : List Addr} : ∀ {kv : List (Key × V)} {l : List (Key × D)} {ys : List Int}, KR g H μ kv l → intKeys l = some ys → kv.map (·.1) = ys.map Sum.inl
  | _, _, _, .nil, e => by cases e; rfl
  | _, _, _, @KR.cons _ _ _ _ k v d vs ds a b, e => by
    cases k with
    | inr i => cases e
    | inl x =>
      simp only [intKeys, Option.map_eq_some_iff] at e
      obtain ⟨r, e, rfl⟩ := e
      rw [List.map_cons, List.map_cons, intKeys_of b e]
theorem vrs_ints36 {g : G} {H : Hp} {μ : List Addr} : ∀ (ys : List Int), VRs g H μ (ys.map V.int) (ys.map D.int)
  | [] => .nil
  | y :: ys => .cons (.int y) (vrs_ints36 ys)
theorem sn_sortKI {g : G} : SN g rSortKI dSortKI := sn1 (fun H μ h x a Q W hr va bk => by
  simp only [dSortKI] at bk
  split at bk
  · rename_i l e1
    split at bk
    · rename_i ys e2
      obtain ⟨i, p, kv, rfl, rfl, hi, hq, hp, kr⟩ := getK_of hr va e1
      exact ⟨p, kv, ys, rfl, hp, intKeys_of kr e2, fun r h3 => bk.newL hr (vrs_ints36 _) h3⟩
    · exact bk.elim
  · exact bk.elim) (fun _ => rfl) (fun a b l h => by simp [dSortKI])
/-! ### list(d) -/
def rListK : List V → Hp → VK → Prop := fun xs H Q => ∃ (a : Addr) (kvs : List (Key × V)), xs = [V.ref a] ∧ H a = some (.dK kvs) ∧ ∀ p, H p = none → Q (.ref p) (upd H p (.lst (kvs.map fun e => kV e.1)))
theorem cr_listK {X : Cx} (hc : X.calm = true) : CallR X (.type "list") rListK := by
  intro pins s σ H xs us Q I rr hh
  obtain ⟨a, kvs, rfl, ea, q⟩ := hh
  rw [Vals.ref1 rr]
  obtain ⟨z, hd, vs, rel, o, es, ep, g1, g2, g3, g4, g5, g6⟩ := dk_of I.hok ea
  have da : s.heap.DictAt (mixKind X.prog X.w) a vs ep := ⟨o, es, g1, g2, g3, g4, g5, g6⟩
  have src := PySem.W.kdl_dict (prog := X.prog) (w := X.w) (knd := mixKind X.prog X.w) (kvs := vs) (ep := ep) hd
  have hl : kvs.length = vs.length := rel.length
  apply PySem.W.kdl_call (A := X.A) src (I.ok.hd hc) da (by rw [← hl]; exact z)
  intro h' tk acc' c' hk hS hacc
  have p0 : s.heap.get? s.heap.objs.size = none := by
    cases e : s.heap.get? s.heap.objs.size with
    | none => rfl
    | some o => exact absurd (Heap.lt_size e) (Nat.lt_irrefl _)
  have pH := hok_none I.hok p0
  refine ⟨.ref _, upd H _ (.lst (kvs.map fun e => kV e.1)), ?_, rfl, q _ pH⟩
  refine I.laidN (t' := tk) hk p0 pH ⟨by rw [List.length_map]; exact z, acc'.toList, c', ?_, hS⟩
  refine vals_at (by rw [Array.length_toList, hacc.1, List.length_map, hl]) fun j v e => ?_
  obtain ⟨k, x, e1, e2⟩ := hacc.2 j v (by rw [← Array.getElem?_toList]; exact e)
  obtain ⟨y, e3, e4⟩ := pair_get rel e1
  refine ⟨kV y.1, by rw [List.getElem?_map, e3]; rfl, ?_⟩
  have ek : y.1 = k := e4.1
  rw [ek]
  rcases keyIs_shape (k := k) (v := v) (show keyIs _ _ = true from e2) with ⟨i, t, e5, e6⟩ | ⟨x', t, e5, e6⟩
  · rw [e5, e6]; exact ⟨t, rfl⟩
  · rw [e5, e6]; exact ⟨t, rfl⟩
def dListK : List D → MH → R D
  | [x], h => match getK h x with
    | some l => .ok (.ref h.length) (h ++ [.lst (l.map fun p => kD p.1)])
    | none => .bad
  | _, _ => .bad
theorem krk36 {g : G} {H : Hp} {μ : List Addr} : ∀ {kv : List (Key × V)} {l : List (Key × D)}, KR g H μ kv l → VRs g H μ (kv.map fun e => kV e.1) (l.map fun p => kD p.1)
  | _, _, .nil => .nil
  | _, _, @KR.cons _ _ _ _ k v d vs ds a b => by
    refine .cons ?_ (krk36 b)
    cases k with
    | inl i => exact .int i
    | inr x => exact .str x
theorem sn_listK {g : G} : SN g rListK dListK := sn1 (fun H μ h x a Q W hr va bk => by
  simp only [dListK] at bk
  split at bk
  · rename_i l e1
    obtain ⟨i, p, kv, rfl, rfl, hi, hq, hp, kr⟩ := getK_of hr va e1
    exact ⟨p, kv, rfl, hp, fun r h3 => bk.newL hr (krk36 kr) h3⟩
  · exact bk.elim) (fun _ => rfl) (fun a b l h => by simp [dListK])
theorem w_listK {h : MH} {i : Nat} {l : List (Key × D)} {Q : D → MH → Prop} {E : XE} (e : h[i]? = some (.dK l)) (q : Q (.ref h.length) (h ++ [.lst (l.map fun p => kD p.1)])) : Sat (dListK [.ref i] h) Q E := w_eq (by simp only [dListK, getK_ref e]) q
theorem w_sortKI {h : MH} {i : Nat} {l : List (Key × D)} {ys : List Int} {Q : D → MH → Prop} {E : XE} (e : h[i]? = some (.dK l)) (k : intKeys l = some ys) (q : Q (.ref h.length) (h ++ [.lst ((sortI ys).map .int)])) : Sat (dSortKI [.ref i] h) Q E := w_eq (by simp only [dSortKI, getK_ref e, k]) q
end Mi

namespace Mi
open PySem L2
def m_names_53c1e : List D → MH → R D := mFun 2 10
 (mSeq (mAsg 2 (mC (.str (Str.ofString "abcdefghijklmnopqrstuvwxyz"))))
 (mSeq (mIf (mB (mBin dGe (mVar 0) (mBin dPow (mC (.int 10)) (mC (.int 18)))))
 (mRet (mCall (m_any_names_23d34) (mCons (mVar 0) (mCons (mVar 1) (mNil)))))
 (mSkip))
 (mSeq (mAsg 3 (mBin dMod (mVar 0) (mC (.int 1000003))))
 (mSeq (mAsg 4 (mMeth isStrD dJoin (mC (.str (Str.ofString ""))) (mCons (mLc (mRange1 (mC (.int 8))) (mgName 8) (mYes) (mBin dIx (mVar 2) (mBin dMod (mBin dMod (mBin dMul (mVar 3) (mBin dAdd (mBin dMul (mVar 8) (mVar 8)) (mC (.int 7)))) (mC (.int 10007))) (mC (.int 26)))) [8]) (mNil))))
 (mSeq (mIf (mB (mBin dEq (mBin dMod (mVar 3) (mC (.int 2))) (mC (.int 0))))
 (mRet (mLc (mRange1 (mVar 1)) (mgName 8) (mYes) (mSl (mVar 4) (mNo) (mSome (mBin dAdd (mVar 8) (mC (.int 1))))) [8]))
 (mSkip))
 (mSeq (mAsg 5 (mBin dMod (mBin dFdiv (mVar 3) (mC (.int 2))) (mC (.int 8))))
 (mSeq (mAsg 6 (mBin dAdd (mBin dAdd (mVar 5) (mC (.int 1))) (mBin dMod (mBin dFdiv (mVar 3) (mC (.int 16))) (mBin dSub (mC (.int 8)) (mVar 5)))))
 (mSeq (mAsg 7 (mLst (mNil)))
 (mSeq (mFor (mRange1 (mVar 1)) (mgName 8)
 (mSeq (mAsg 9 (mBin dIx (mVar 2) (mBin dMod (mBin dAdd (mBin dFdiv (mVar 3) (mC (.int 128))) (mVar 8)) (mC (.int 26)))))
 (mDrop (mMeth isListD dAppend (mVar 7) (mCons (mSl (mBin dAdd (mBin dAdd (mSl (mVar 4) (mNo) (mSome (mVar 5))) (mVar 9)) (mSl (mVar 4) (mSome (mBin dAdd (mVar 5) (mC (.int 1)))) (mNo))) (mNo) (mSome (mVar 6))) (mNil))))))
 (mRet (mVar 7)))))))))))
def m_machine_76c53 : List D → MH → R D := mFun 4 11
 (mSeq (mAsg 4 (mBin dAdd (mCall dLen (mCons (mVar 3) (mNil))) (mC (.int 1))))
 (mSeq (mAsg 5 (mCall dTuple (mCons (mLc (mRange1 (mVar 4)) (mgName 9) (mYes) (mBin dMod (mBin dIx (mVar 0) (mVar 9)) (mVar 1)) [9]) (mNil))))
 (mSeq (mAsg 6 (mCall dTuple (mCons (mLc (mRange1 (mVar 1)) (mgName 9) (mYes) (mBin dMod (mBin dIx (mVar 0) (mBin dAdd (mVar 4) (mVar 9))) (mBin dShl (mC (.int 1)) (mCall dLen (mCons (mVar 2) (mNil))))) [9]) (mNil))))
 (mSeq (mAsg 7 (mLst (mNil)))
 (mSeq (mFor (mRange1 (mVar 1)) (mgName 8)
 (mDrop (mMeth isListD dAppend (mVar 7) (mCons (mCall dTuple (mCons (mLc (mRange1 (mVar 1)) (mgName 10) (mYes) (mBin dMod (mBin dIx (mVar 0) (mBin dAdd (mBin dAdd (mBin dAdd (mVar 4) (mVar 1)) (mBin dMul (mVar 1) (mVar 8))) (mVar 10))) (mVar 1)) [10]) (mNil))) (mNil)))))
 (mRet (mTup (mCons (mCall dTuple (mCons (mVar 2) (mNil))) (mCons (mCall dTuple (mCons (mVar 3) (mNil))) (mCons (mVar 5) (mCons (mCall dTuple (mCons (mVar 7) (mNil))) (mCons (mVar 6) (mNil)))))))))))))
def m_like_on_a_side_2a257 : List D → MH → R D := mFun 4 8
 (mSeq (mAsg 4 (mLc (mIter (mBin dIx (mVar 0) (mC (.int 3)))) (mgName 7) (mYes) (mCall dList (mCons (mVar 7) (mNil))) [7]))
 (mSeq (mFor (mRange1 (mCall dLen (mCons (mVar 4) (mNil)))) (mgName 5)
 (mIf (mB (mBin dEq (mVar 3) (mC (.int 0))))
 (mSetIx (mBin dIx (mVar 4) (mVar 2)) (mVar 5) (mBin dIx (mBin dIx (mVar 4) (mVar 1)) (mVar 5)))
 (mSetIx (mBin dIx (mVar 4) (mVar 5)) (mVar 2) (mBin dIx (mBin dIx (mVar 4) (mVar 5)) (mVar 1)))))
 (mSeq (mAsg 6 (mCall dList (mCons (mBin dIx (mVar 0) (mC (.int 4))) (mNil))))
 (mSeq (mSetIx (mVar 6) (mVar 2) (mBin dIx (mVar 6) (mVar 1)))
 (mRet (mBin dAdd (mSl (mVar 0) (mNo) (mSome (mC (.int 3)))) (mTup (mCons (mCall dTuple (mCons (mLc (mIter (mVar 4)) (mgName 7) (mYes) (mCall dTuple (mCons (mVar 7) (mNil))) [7]) (mNil))) (mCons (mCall dTuple (mCons (mVar 6) (mNil))) (mNil))))))))))
def m_counter_24df0 : List D → MH → R D := mFun 3 12
 (mSeq (mAsg 3 (mBin dAdd (mC (.int 9)) (mBin dMod (mBin dIx (mVar 0) (mC (.int 53))) (mC (.int 12)))))
 (mSeq (mAsg 4 (mBin dMod (mBin dIx (mVar 0) (mC (.int 54))) (mC (.int 4))))
 (mSeq (mAsg 5 (mLst (mNil)))
 (mSeq (mFor (mRange1 (mVar 3)) (mgName 6)
 (mSeq (mAsg 9 (mBin dIx (mLst (mCons (mCall dMin (mCons (mBin dAdd (mVar 6) (mC (.int 1))) (mCons (mBin dSub (mVar 3) (mC (.int 1))) (mNil)))) (mCons (mBin dMod (mBin dAdd (mVar 6) (mC (.int 1))) (mVar 3)) (mNil)))) (mBin dMod (mVar 4) (mC (.int 2)))))
 (mDrop (mMeth isListD dAppend (mVar 5) (mCons (mCall dTuple (mCons (mLc (mRange1 (mVar 3)) (mgName 11) (mYes) (mBin dIx (mLst (mCons (mVar 9) (mCons (mVar 6) (mNil)))) (mCall dInt (mCons (mAndV (mBin dGt (mVar 4) (mC (.int 1))) (mBin dGt (mVar 11) (mVar 6))) (mNil)))) [11]) (mNil))) (mNil))))))
 (mSeq (mAsg 7 (mBin dIx (mLst (mCons (mBin dSub (mVar 3) (mC (.int 1))) (mCons (mBin dFdiv (mVar 3) (mC (.int 2))) (mCons (mBin dSub (mVar 3) (mC (.int 1))) (mCons (mBin dSub (mVar 3) (mC (.int 2))) (mNil)))))) (mBin dMod (mBin dIx (mVar 0) (mC (.int 55))) (mC (.int 4)))))
 (mSeq (mAsg 8 (mBin dAdd (mCall dTuple (mCons (mLc (mRange1 (mCall dLen (mCons (mVar 2) (mNil)))) (mgName 10) (mYes) (mBin dMod (mBin dIx (mVar 0) (mVar 10)) (mVar 3)) [10]) (mNil))) (mTup (mCons (mC (.int 0)) (mNil)))))
 (mRet (mTup (mCons (mCall dTuple (mCons (mVar 1) (mNil))) (mCons (mCall dTuple (mCons (mVar 2) (mNil))) (mCons (mVar 8) (mCons (mCall dTuple (mCons (mVar 5) (mNil))) (mCons (mCall dTuple (mCons (mLc (mRange1 (mVar 3)) (mgName 10) (mYes) (mCall dInt (mCons (mBin dGe (mVar 10) (mVar 7)) (mNil))) [10]) (mNil))) (mNil))))))))))))))
def m_twins_efdf6 : List D → MH → R D := mFun 4 16
 (mSeq (mAsg 4 (mCall dLen (mCons (mBin dIx (mVar 1) (mC (.int 4))) (mNil))))
 (mSeq (mAsg 5 (mLc (mRange1 (mVar 2)) (mgName 9) (mYes) (mIfE (mB (mBin dLt (mVar 9) (mVar 4))) (mVar 9) (mBin dMod (mBin dIx (mVar 0) (mVar 9)) (mVar 4))) [9]))
 (mSeq (mIf (mB (mVar 3))
 (mAsg 5 (mRevL (mVar 5)))
 (mSkip))
 (mSeq (mAsg 6 (mLst (mNil)))
 (mSeq (mFor (mRange1 (mVar 4)) (mgName 7)
 (mDrop (mMeth isListD dAppend (mVar 6) (mCons (mLc (mRange1 (mVar 2)) (mgName 9) (mB (mBin dEq (mBin dIx (mVar 5) (mVar 9)) (mVar 7))) (mVar 9) [9]) (mNil)))))
 (mSeq (mAsg 8 (mLst (mNil)))
 (mSeq (mFor (mRange1 (mCall dLen (mCons (mBin dIx (mVar 1) (mC (.int 2))) (mNil)))) (mgName 9)
 (mSeq (mAsg 13 (mBin dIx (mVar 6) (mBin dIx (mBin dIx (mVar 1) (mC (.int 2))) (mVar 9))))
 (mDrop (mMeth isListD dAppend (mVar 8) (mCons (mBin dIx (mVar 13) (mBin dMod (mBin dIx (mVar 0) (mBin dAdd (mVar 2) (mVar 9))) (mCall dLen (mCons (mVar 13) (mNil))))) (mNil))))))
 (mSeq (mAsg 10 (mLst (mNil)))
 (mSeq (mFor (mRange1 (mVar 2)) (mgName 11)
 (mSeq (mAsg 14 (mLst (mNil)))
 (mSeq (mFor (mRange1 (mVar 2)) (mgName 15)
 (mSeq (mAsg 13 (mBin dIx (mVar 6) (mBin dIx (mBin dIx (mBin dIx (mVar 1) (mC (.int 3))) (mBin dIx (mVar 5) (mVar 11))) (mBin dIx (mVar 5) (mVar 15)))))
 (mDrop (mMeth isListD dAppend (mVar 14) (mCons (mBin dIx (mVar 13) (mBin dMod (mBin dFdiv (mBin dIx (mVar 0) (mBin dMod (mBin dAdd (mBin dMul (mVar 2) (mVar 11)) (mBin dMul (mC (.int 5)) (mVar 15))) (mCall dLen (mCons (mVar 0) (mNil))))) (mC (.int 7))) (mCall dLen (mCons (mVar 13) (mNil))))) (mNil))))))
 (mDrop (mMeth isListD dAppend (mVar 10) (mCons (mCall dTuple (mCons (mVar 14) (mNil))) (mNil)))))))
 (mSeq (mAsg 12 (mCall dTuple (mCons (mLc (mIter (mVar 5)) (mgName 7) (mYes) (mBin dIx (mBin dIx (mVar 1) (mC (.int 4))) (mVar 7)) [7]) (mNil))))
 (mRet (mTup (mCons (mBin dIx (mVar 1) (mC (.int 0))) (mCons (mBin dIx (mVar 1) (mC (.int 1))) (mCons (mCall dTuple (mCons (mVar 8) (mNil))) (mCons (mCall dTuple (mCons (mVar 10) (mNil))) (mCons (mVar 12) (mNil))))))))))))))))))
def m_one_9da12 : List D → MH → R D := mFun 1 7
 (mSeq (mAsg 1 (mCall (m_names_53c1e) (mCons (mCall (m_cell_at_2c4cb) (mCons (mVar 0) (mCons (mC (.int 0)) (mNil)))) (mCons (mC (.int 5)) (mNil)))))
 (mSeq (mAsg 2 (mBin dMod (mCall (m_cell_at_2c4cb) (mCons (mVar 0) (mCons (mC (.int 1)) (mNil)))) (mBin dPow (mC (.int 10)) (mC (.int 6)))))
 (mSeq (mAsg 3 (mBin dAdd (mC (.int 1)) (mBin dMod (mVar 2) (mC (.int 4)))))
 (mSeq (mIf (mB (mBin dEq (mBin dMod (mBin dFdiv (mVar 2) (mC (.int 4))) (mC (.int 8))) (mC (.int 1))))
 (mAsg 3 (mBin dAdd (mC (.int 4)) (mBin dMod (mBin dFdiv (mVar 2) (mC (.int 32))) (mC (.int 2)))))
 (mSkip))
 (mSeq (mAsg 4 (mSl (mVar 1) (mSome (mC (.int 3))) (mSome (mBin dAdd (mC (.int 3)) (mBin dMod (mBin dFdiv (mVar 2) (mC (.int 64))) (mC (.int 3)))))))
 (mSeq (mAsg 5 (mCall (m_numbers_0d805) (mCons (mVar 0) (mCons (mC (.int 3)) (mCons (mBin dAdd (mBin dAdd (mBin dMul (mVar 3) (mVar 3)) (mVar 3)) (mC (.int 60))) (mNil))))))
 (mSeq (mAsg 6 (mCall (m_machine_76c53) (mCons (mVar 5) (mCons (mVar 3) (mCons (mVar 4) (mCons (mCall dSorted (mCons (mSl (mVar 1) (mNo) (mSome (mBin dMod (mBin dFdiv (mVar 2) (mC (.int 256))) (mC (.int 4))))) (mNil))) (mNil)))))))
 (mSeq (mIf (mB (mBin dEq (mBin dMod (mBin dFdiv (mVar 2) (mC (.int 1024))) (mC (.int 3))) (mC (.int 1))))
 (mAsg 6 (mCall (m_like_on_a_side_2a257) (mCons (mVar 6) (mCons (mBin dMod (mBin dIx (mVar 5) (mC (.int 50))) (mVar 3)) (mCons (mBin dMod (mBin dIx (mVar 5) (mC (.int 51))) (mVar 3)) (mCons (mBin dMod (mBin dIx (mVar 5) (mC (.int 52))) (mC (.int 2))) (mNil)))))))
 (mSkip))
 (mSeq (mIf (mB (mBin dEq (mBin dMod (mBin dFdiv (mVar 2) (mC (.int 3072))) (mC (.int 16))) (mC (.int 5))))
 (mAsg 6 (mCall (m_counter_24df0) (mCons (mVar 5) (mCons (mSl (mVar 1) (mSome (mC (.int 3))) (mSome (mC (.int 4)))) (mCons (mCall dSorted (mCons (mSl (mVar 1) (mNo) (mSome (mBin dMod (mBin dFdiv (mVar 2) (mC (.int 256))) (mC (.int 4))))) (mNil))) (mNil))))))
 (mSkip))
 (mSeq (mIf (mB (mBin dEq (mBin dMod (mCall (m_cell_at_2c4cb) (mCons (mVar 0) (mCons (mC (.int 2)) (mNil)))) (mC (.int 2))) (mC (.int 1))))
 (mAsg 6 (mCall (m_twins_efdf6) (mCons (mVar 5) (mCons (mVar 6) (mCons (mBin dAdd (mCall dLen (mCons (mBin dIx (mVar 6) (mC (.int 4))) (mNil))) (mC (.int 2))) (mCons (mBin dEq (mBin dMod (mBin dFdiv (mCall (m_cell_at_2c4cb) (mCons (mVar 0) (mCons (mC (.int 2)) (mNil)))) (mC (.int 2))) (mC (.int 2))) (mC (.int 1))) (mNil)))))))
 (mSkip))
 (mRet (mVar 6))))))))))))
def m_reached_2ae6f : List D → MH → R D := mFun 1 6
 (mSeq (mAsg 1 (mDict0))
 (mSeq (mFor (mIter (mBin dIx (mVar 0) (mC (.int 2)))) (mgName 2)
 (mASet (mVar 1) (mVar 2) (mC (.bl true))))
 (mSeq (mFor (mRange1 (mCall dLen (mCons (mBin dIx (mVar 0) (mC (.int 4))) (mNil)))) (mgName 3)
 (mFor (mIter (mCall dListK (mCons (mVar 1) (mNil)))) (mgName 4)
 (mFor (mIter (mCall dListK (mCons (mVar 1) (mNil)))) (mgName 5)
 (mASet (mVar 1) (mBin dIx (mBin dIx (mBin dIx (mVar 0) (mC (.int 3))) (mVar 4)) (mVar 5)) (mC (.bl true))))))
 (mRet (mCall dSortKI (mCons (mVar 1) (mNil)))))))
def m_partners_f0b60 : List D → MH → R D := mFun 1 3
 (mSeq (mAsg 1 (mCall (m_sizes_9dfee) (mCons (mVar 0) (mNil))))
 (mRet (mLc (mRange1 (mCall dLen (mCons (mVar 1) (mNil)))) (mgName 2) (mB (mBin dNotN (mBin dIx (mVar 1) (mVar 2)) (mC .non))) (mVar 2) [2])))
def m_finer_10ac3 : List D → MH → R D := mFun 3 8
 (mSeq (mAsg 3 (mDict0))
 (mSeq (mAsg 4 (mLst (mNil)))
 (mSeq (mFor (mRange1 (mCall dLen (mCons (mVar 1) (mNil)))) (mgName 5)
 (mSeq (mAsg 6 (mLst (mCons (mBin dIx (mVar 1) (mVar 5)) (mNil))))
 (mSeq (mFor (mIter (mVar 2)) (mgName 7)
 (mSeq (mDrop (mMeth isListD dAppend (mVar 6) (mCons (mBin dIx (mVar 1) (mBin dIx (mBin dIx (mBin dIx (mVar 0) (mC (.int 3))) (mVar 5)) (mVar 7))) (mNil))))
 (mDrop (mMeth isListD dAppend (mVar 6) (mCons (mBin dIx (mVar 1) (mBin dIx (mBin dIx (mBin dIx (mVar 0) (mC (.int 3))) (mVar 7)) (mVar 5))) (mNil))))))
 (mDrop (mMeth isListD dAppend (mVar 4) (mCons (mDM dSetA (mVar 3) (mCall dTuple (mCons (mVar 6) (mNil))) (mVar 5)) (mNil)))))))
 (mRet (mVar 4)))))
def m_rounds_f8746 : List D → MH → R D := mFun 1 6
 (mSeq (mAsg 1 (mCall (m_partners_f0b60) (mCons (mVar 0) (mNil))))
 (mSeq (mAsg 2 (mDict0))
 (mSeq (mAsg 3 (mLst (mCons (mLc (mRange1 (mCall dLen (mCons (mBin dIx (mVar 0) (mC (.int 4))) (mNil)))) (mgName 5) (mYes) (mDM dSetA (mVar 2) (mBin dIx (mBin dIx (mVar 0) (mC (.int 4))) (mVar 5)) (mVar 5)) [5]) (mNil))))
 (mWhile 1000 (mB (mC (.bl true)))
 (mSeq (mAsg 4 (mCall (m_finer_10ac3) (mCons (mVar 0) (mCons (mBin dIx (mVar 3) (mUn dNeg (mC (.int 1)))) (mCons (mVar 1) (mNil))))))
 (mSeq (mIf (mB (mBin dEq (mVar 4) (mBin dIx (mVar 3) (mUn dNeg (mC (.int 1))))))
 (mRet (mVar 3))
 (mSkip))
 (mDrop (mMeth isListD dAppend (mVar 3) (mCons (mVar 4) (mNil))))))))))
def m_alike_62182 : List D → MH → R D := mFun 1 1
 (mRet (mCall dTuple (mCons (mBin dIx (mCall (m_rounds_f8746) (mCons (mVar 0) (mNil))) (mUn dNeg (mC (.int 1)))) (mNil))))
def m_whole_05e23 : List D → MH → R D := mFun 1 1
 (mRet (mAndV (mIsi "int" (mVar 0)) (mNotV (mIsi "bool" (mVar 0)))))
def m_classes_a41b6 : List D → MH → R D := mFun 3 7
 (mSeq (mAsg 3 (mCall dLen (mCons (mBin dIx (mVar 1) (mC (.int 4))) (mNil))))
 (mSeq (mIf (mOr (mNot (mB (mIsi "tuple" (mVar 0)))) (mOr (mB (mBin dNe (mCall dLen (mCons (mVar 0) (mNil))) (mVar 3))) (mNot (mB (mCall dAll (mCons (mLc (mIter (mVar 0)) (mgName 4) (mYes) (mCall (m_whole_05e23) (mCons (mVar 4) (mNil))) [4]) (mNil)))))))
 (mRet (mC (.bl false)))
 (mSkip))
 (mSeq (mFor (mRange1 (mVar 3)) (mgName 4)
 (mSeq (mAsg 5 (mBin dIx (mVar 0) (mVar 4)))
 (mSeq (mIf (mOr (mNot (mB (mChain dLe dLe (mC (.int 0)) (mVar 5) (mVar 4)))) (mOr (mB (mBin dNe (mBin dIx (mVar 0) (mVar 5)) (mVar 5))) (mB (mBin dNe (mBin dIx (mBin dIx (mVar 1) (mC (.int 4))) (mVar 5)) (mBin dIx (mBin dIx (mVar 1) (mC (.int 4))) (mVar 4))))))
 (mRet (mC (.bl false)))
 (mSkip))
 (mFor (mIter (mVar 2)) (mgName 6)
 (mSeq (mIf (mB (mBin dNe (mBin dIx (mVar 0) (mBin dIx (mBin dIx (mBin dIx (mVar 1) (mC (.int 3))) (mVar 4)) (mVar 6))) (mBin dIx (mVar 0) (mBin dIx (mBin dIx (mBin dIx (mVar 1) (mC (.int 3))) (mVar 5)) (mVar 6)))))
 (mRet (mC (.bl false)))
 (mSkip))
 (mIf (mB (mBin dNe (mBin dIx (mVar 0) (mBin dIx (mBin dIx (mBin dIx (mVar 1) (mC (.int 3))) (mVar 6)) (mVar 4))) (mBin dIx (mVar 0) (mBin dIx (mBin dIx (mBin dIx (mVar 1) (mC (.int 3))) (mVar 6)) (mVar 5)))))
 (mRet (mC (.bl false)))
 (mSkip)))))))
 (mRet (mC (.bl true))))))
def m_first_unlike_550e4 : List D → MH → R D := mFun 3 4
 (mSeq (mAsg 3 (mC (.int 0)))
 (mSeq (mWhile 1000 (mB (mBin dEq (mBin dIx (mBin dIx (mVar 0) (mVar 3)) (mVar 1)) (mBin dIx (mBin dIx (mVar 0) (mVar 3)) (mVar 2))))
 (mAsg 3 (mBin dAdd (mVar 3) (mC (.int 1)))))
 (mRet (mVar 3))))
def m_telling_step_31d40 : List D → MH → R D := mFun 5 8
 (mSeq (mFor (mIter (mVar 1)) (mgName 5)
 (mSeq (mAsg 6 (mBin dIx (mBin dIx (mBin dIx (mVar 0) (mC (.int 3))) (mVar 3)) (mVar 5)))
 (mSeq (mAsg 7 (mBin dIx (mBin dIx (mBin dIx (mVar 0) (mC (.int 3))) (mVar 4)) (mVar 5)))
 (mSeq (mIf (mB (mBin dNe (mBin dIx (mVar 2) (mVar 6)) (mBin dIx (mVar 2) (mVar 7))))
 (mRet (mTup (mCons (mTup (mCons (mC (.int 0)) (mCons (mVar 5) (mNil)))) (mCons (mVar 6) (mCons (mVar 7) (mNil))))))
 (mSkip))
 (mSeq (mAsg 6 (mBin dIx (mBin dIx (mBin dIx (mVar 0) (mC (.int 3))) (mVar 5)) (mVar 3)))
 (mSeq (mAsg 7 (mBin dIx (mBin dIx (mBin dIx (mVar 0) (mC (.int 3))) (mVar 5)) (mVar 4)))
 (mIf (mB (mBin dNe (mBin dIx (mVar 2) (mVar 6)) (mBin dIx (mVar 2) (mVar 7))))
 (mRet (mTup (mCons (mTup (mCons (mC (.int 1)) (mCons (mVar 5) (mNil)))) (mCons (mVar 6) (mCons (mVar 7) (mNil))))))
 (mSkip))))))))
 (mRet (mC .non)))
def m_apart_4d1da : List D → MH → R D := mFun 3 8
 (mSeq (mAsg 3 (mCall (m_rounds_f8746) (mCons (mVar 0) (mNil))))
 (mSeq (mIf (mB (mBin dEq (mBin dIx (mBin dIx (mVar 3) (mUn dNeg (mC (.int 1)))) (mVar 1)) (mBin dIx (mBin dIx (mVar 3) (mUn dNeg (mC (.int 1)))) (mVar 2))))
 (mRet (mC .non))
 (mSkip))
 (mSeq (mAsg 4 (mLst (mNil)))
 (mSeq (mAsg 5 (mCall (m_partners_f0b60) (mCons (mVar 0) (mNil))))
 (mSeq (mAsg 6 (mCall (m_first_unlike_550e4) (mCons (mVar 3) (mCons (mVar 1) (mCons (mVar 2) (mNil))))))
 (mSeq (mWhile 1000 (mB (mBin dGt (mVar 6) (mC (.int 0))))
 (mSeq (mAsgT (mgTup (mgCons (mgName 7) (mgCons (mgName 1) (mgCons (mgName 2) (mgNil))))) (mCall (m_telling_step_31d40) (mCons (mVar 0) (mCons (mVar 5) (mCons (mBin dIx (mVar 3) (mBin dSub (mVar 6) (mC (.int 1)))) (mCons (mVar 1) (mCons (mVar 2) (mNil))))))))
 (mSeq (mDrop (mMeth isListD dAppend (mVar 4) (mCons (mVar 7) (mNil))))
 (mAsg 6 (mCall (m_first_unlike_550e4) (mCons (mVar 3) (mCons (mVar 1) (mCons (mVar 2) (mNil)))))))))
 (mRet (mCall dTuple (mCons (mVar 4) (mNil))))))))))
def m_led_80fb4 : List D → MH → R D := mFun 3 5
 (mSeq (mFor (mIter (mVar 1)) (mgTup (mgCons (mgName 3) (mgCons (mgName 4) (mgNil))))
 (mIf (mB (mBin dEq (mVar 3) (mC (.int 0))))
 (mAsg 2 (mBin dIx (mBin dIx (mBin dIx (mVar 0) (mC (.int 3))) (mVar 2)) (mVar 4)))
 (mAsg 2 (mBin dIx (mBin dIx (mBin dIx (mVar 0) (mC (.int 3))) (mVar 4)) (mVar 2)))))
 (mRet (mVar 2)))
def m_way_035bf : List D → MH → R D := mFun 5 7
 (mSeq (mIf (mNot (mB (mIsi "tuple" (mVar 0))))
 (mRet (mC (.bl false)))
 (mSkip))
 (mSeq (mFor (mIter (mVar 0)) (mgName 5)
 (mSeq (mIf (mOr (mNot (mB (mIsi "tuple" (mVar 5)))) (mOr (mB (mBin dNe (mCall dLen (mCons (mVar 5) (mNil))) (mC (.int 2)))) (mNot (mB (mCall dAll (mCons (mLc (mIter (mVar 5)) (mgName 6) (mYes) (mCall (m_whole_05e23) (mCons (mVar 6) (mNil))) [6]) (mNil)))))))
 (mRet (mC (.bl false)))
 (mSkip))
 (mIf (mOr (mNot (mB (mChain dLe dLe (mC (.int 0)) (mBin dIx (mVar 5) (mC (.int 0))) (mC (.int 1))))) (mB (mBin dNotIn (mBin dIx (mVar 5) (mC (.int 1))) (mVar 2))))
 (mRet (mC (.bl false)))
 (mSkip))))
 (mRet (mBin dNe (mBin dIx (mBin dIx (mVar 1) (mC (.int 4))) (mCall (m_led_80fb4) (mCons (mVar 1) (mCons (mVar 0) (mCons (mVar 3) (mNil)))))) (mBin dIx (mBin dIx (mVar 1) (mC (.int 4))) (mCall (m_led_80fb4) (mCons (mVar 1) (mCons (mVar 0) (mCons (mVar 4) (mNil))))))))))
def m_law_a349c : List D → MH → R D := mFun 1 10
 (mSeq (mAsg 1 (mCall (m_one_9da12) (mCons (mVar 0) (mNil))))
 (mSeq (mAsg 2 (mCall (m_reached_2ae6f) (mCons (mVar 1) (mNil))))
 (mSeq (mAsg 3 (mCall (m_alike_62182) (mCons (mVar 1) (mNil))))
 (mSeq (mIf (mNot (mB (mCall (m_classes_a41b6) (mCons (mVar 3) (mCons (mVar 1) (mCons (mVar 2) (mNil)))))))
 (mRet (mC (.bl false)))
 (mSkip))
 (mSeq (mAsg 4 (mCall dLen (mCons (mBin dIx (mVar 1) (mC (.int 4))) (mNil))))
 (mSeq (mAsg 5 (mLc (mRange1 (mCall dMin (mCons (mVar 4) (mCons (mC (.int 8)) (mNil))))) (mgName 7) (mYes) (mTup (mCons (mVar 7) (mCons (mBin dMod (mBin dAdd (mBin dAdd (mVar 7) (mC (.int 1))) (mBin dFdiv (mCall (m_cell_at_2c4cb) (mCons (mVar 0) (mCons (mC (.int 2)) (mNil)))) (mC (.int 4)))) (mVar 4)) (mNil)))) [7]))
 (mSeq (mFor (mIter (mSl (mVar 0) (mSome (mC (.int 3))) (mSome (mC (.int 11))))) (mgName 6)
 (mDrop (mMeth isListD dAppend (mVar 5) (mCons (mTup (mCons (mBin dMod (mVar 6) (mVar 4)) (mCons (mBin dMod (mBin dFdiv (mVar 6) (mVar 4)) (mVar 4)) (mNil)))) (mNil)))))
 (mSeq (mFor (mIter (mVar 5)) (mgTup (mgCons (mgName 7) (mgCons (mgName 8) (mgNil))))
 (mSeq (mAsg 9 (mCall (m_apart_4d1da) (mCons (mVar 1) (mCons (mVar 7) (mCons (mVar 8) (mNil))))))
 (mIf (mB (mBin dEq (mBin dIx (mVar 3) (mVar 7)) (mBin dIx (mVar 3) (mVar 8))))
 (mIf (mB (mBin dNotN (mVar 9) (mC .non)))
 (mRet (mC (.bl false)))
 (mSkip))
 (mIf (mNot (mB (mCall (m_way_035bf) (mCons (mVar 9) (mCons (mVar 1) (mCons (mVar 2) (mCons (mVar 7) (mCons (mVar 8) (mNil)))))))))
 (mRet (mC (.bl false)))
 (mSkip)))))
 (mRet (mC (.bl true)))))))))))
end Mi

namespace Mi
open PySem L2
local macro_rules | `(tactic| walk_at "gl") => `(tactic| first
  | assumption
  | (refine Own.atL (h0 := ?_) (L := ?_) ?_ 0 ?_; rotate_left; rotate_left; assumption; rfl)
  | (refine Own.atL (h0 := ?_) (L := ?_) ?_ 1 ?_; rotate_left; rotate_left; assumption; rfl)
  | (refine Own.atL (h0 := ?_) (L := ?_) ?_ 2 ?_; rotate_left; rotate_left; assumption; rfl)
  | (refine Own.atL (h0 := ?_) (L := ?_) ?_ 3 ?_; rotate_left; rotate_left; assumption; rfl)
  | (refine Own.atL (h0 := ?_) (L := ?_) ?_ 4 ?_; rotate_left; rotate_left; assumption; rfl)
  | (refine Own.atL (h0 := ?_) (L := ?_) ?_ 5 ?_; rotate_left; rotate_left; assumption; rfl)
  | (refine Own.atL (h0 := ?_) (L := ?_) ?_ 6 ?_; rotate_left; rotate_left; assumption; rfl)
  | (refine Own.atL (h0 := ?_) (L := ?_) ?_ 7 ?_; rotate_left; rotate_left; assumption; rfl)
  | (refine Own.atL (h0 := ?_) (L := ?_) ?_ 8 ?_; rotate_left; rotate_left; assumption; rfl)
  | (refine Own.atL (h0 := ?_) (L := ?_) ?_ 9 ?_; rotate_left; rotate_left; assumption; rfl)
  | (refine Own.getL (h0 := ?_) (L := ?_) ?_ ?_; rotate_left; rotate_left; assumption; assumption))
local macro_rules | `(tactic| walk_at "il") => `(tactic| first
  | (refine Own.isL (h0 := ?_) (L := ?_) (l := ?_) ?_ 0 ?_; rotate_left; rotate_left; rotate_left; assumption; rfl)
  | (refine Own.isL (h0 := ?_) (L := ?_) (l := ?_) ?_ 1 ?_; rotate_left; rotate_left; rotate_left; assumption; rfl)
  | (refine Own.isL (h0 := ?_) (L := ?_) (l := ?_) ?_ 2 ?_; rotate_left; rotate_left; rotate_left; assumption; rfl)
  | (refine Own.isL (h0 := ?_) (L := ?_) (l := ?_) ?_ 3 ?_; rotate_left; rotate_left; rotate_left; assumption; rfl)
  | (refine Own.isL (h0 := ?_) (L := ?_) (l := ?_) ?_ 4 ?_; rotate_left; rotate_left; rotate_left; assumption; rfl)
  | (refine Own.isL (h0 := ?_) (L := ?_) (l := ?_) ?_ 5 ?_; rotate_left; rotate_left; rotate_left; assumption; rfl)
  | (refine Own.isL (h0 := ?_) (L := ?_) (l := ?_) ?_ 6 ?_; rotate_left; rotate_left; rotate_left; assumption; rfl)
  | (refine Own.isL (h0 := ?_) (L := ?_) (l := ?_) ?_ 7 ?_; rotate_left; rotate_left; rotate_left; assumption; rfl)
  | (refine Own.isL (h0 := ?_) (L := ?_) (l := ?_) ?_ 8 ?_; rotate_left; rotate_left; rotate_left; assumption; rfl)
  | (refine Own.isL (h0 := ?_) (L := ?_) (l := ?_) ?_ 9 ?_; rotate_left; rotate_left; rotate_left; assumption; rfl))
local macro_rules | `(tactic| walk_at "bd") => `(tactic| first | assumption | omega | (simp; done) | (simp; omega) | (simp [*]; done) | (simp [*]; omega))
local macro_rules | `(tactic| walk_at "w") => `(tactic| first
  | with_reducible refine w_seq ?_
  | with_reducible refine w_asg ?_
  | with_reducible refine w_cons ?_
  | with_reducible refine w_nil ?_
  | with_reducible refine w_c ?_
  | ((with_reducible refine w_var (d := ?_) ?_ ?_); rotate_left; rfl)
  | with_reducible refine w_bin ?_
  | with_reducible refine w_call ?_
  | with_reducible refine w_if ?_
  | with_reducible refine w_B ?_
  | with_reducible refine w_unB ?_
  | with_reducible refine w_ret ?_
  | with_reducible refine w_drop ?_
  | with_reducible refine w_skip ?_
  | with_reducible refine w_eq (dAdd_int _ _ _) ?_
  | with_reducible refine w_eq (dSub_int _ _ _) ?_
  | with_reducible refine w_eq (dEq_int _ _ _) ?_
  | with_reducible refine w_eq (dEq_str _ _ _) ?_
  | with_reducible refine w_eq (dNe_strs _ _ _) ?_
  | with_reducible refine w_eq (dEq_bls _ _ _) ?_
  | with_reducible refine w_eq (dNe_bls _ _ _) ?_
  | with_reducible refine w_eq (dLt_int _ _ _) ?_
  | with_reducible refine w_eq (dLe_int _ _ _) ?_
  | with_reducible refine w_eq (dGt_int _ _ _) ?_
  | with_reducible refine w_eq (dGe_int _ _ _) ?_
  | with_reducible refine w_eq (dNe_int _ _ _) ?_
  | ((with_reducible refine w_mod ?_ ?_); (first | assumption | decide | omega))
  | ((with_reducible refine w_fdiv ?_ ?_); (first | assumption | decide | omega))
  | ((with_reducible refine w_mulS ?_ ?_); (first | decide | omega))
  | ((with_reducible refine w_addS ?_ ?_); (first | assumption | decide | omega))
  | ((with_reducible refine w_lenS ?_ ?_); (first | assumption | decide | omega))
  | ((with_reducible refine w_slS ?_ ?_); (first | assumption | decide | omega))
  | with_reducible refine w_lenTm ?_
  | with_reducible refine w_eq (dLen_tup _ _) ?_
  | with_reducible refine w_eq (dSl_tup _ _ _ _) ?_
  | with_reducible refine w_eq (dMax_ev _ _ _) ?_
  | with_reducible refine w_eq (dMin_ev _ _ _) ?_
  | with_reducible refine w_eq (dAbs_ev _ _) ?_
  | with_reducible refine w_not ?_
  | with_reducible refine w_and ?_
  | with_reducible refine w_or ?_
  | with_reducible refine br_n ?_
  | with_reducible refine br_tt ?_
  | with_reducible refine br_ff ?_
  | ((with_reducible refine br_dt ?_ ?_); (first | assumption | omega | rfl))
  | ((with_reducible refine br_df ?_ ?_); (first | assumption | omega))
  | with_reducible refine w_tup ?_
  | ((with_reducible refine w_toTup ?_ ?_); exact (by simp))
  | with_reducible refine w_lst ?_
  | with_reducible refine w_lc ?_
  | with_reducible refine w_for ?_
  | with_reducible refine w_range1 ?_
  | with_reducible refine w_range2 ?_
  | ((with_reducible refine w_dR1 ?_ ?_); (first | decide | omega))
  | ((with_reducible refine w_dR2 ?_ ?_); (first | decide | omega))
  | with_reducible refine w_iter ?_
  | with_reducible refine w_eq (iter1_tup _ _) ?_
  | with_reducible refine w_eq (iter1_str _ _) ?_
  | with_reducible refine w_sl ?_
  | with_reducible refine w_no ?_
  | with_reducible refine w_some ?_
  | with_reducible refine w_unI ?_
  | with_reducible refine w_meth ?_
  | with_reducible refine w_isi ?_
  | with_reducible refine w_zip ?_
  | with_reducible refine w_ifE ?_
  | with_reducible refine w_andV ?_
  | with_reducible refine w_orV ?_
  | with_reducible refine w_notV ?_
  | with_reducible refine w_andK ?_
  | with_reducible refine w_orK ?_
  | with_reducible refine w_notK ?_
  | with_reducible refine w_revL ?_
  | with_reducible refine w_listRg1 ?_
  | with_reducible refine w_tindex ?_
  | with_reducible refine w_setIx ?_
  | with_reducible refine w_un ?_
  | with_reducible refine w_rev1 ?_
  | with_reducible refine w_rev2 ?_
  | with_reducible refine w_chain ?_
  | with_reducible refine w_chK ?_
  | with_reducible refine w_retN ?_
  | with_reducible refine w_brk ?_
  | with_reducible refine w_cont ?_
  | with_reducible refine w_asgT ?_
  | with_reducible refine w_eq (isi_str_str _ _) ?_
  | with_reducible refine w_eq (isi_int_int _ _) ?_
  | with_reducible refine w_eq (isi_tup_tup _ _) ?_
  | with_reducible refine w_eq (isi_bool_int _ _) ?_
  | with_reducible refine w_eq (isi_str_int _ _) ?_
  | ((with_reducible refine w_lenLm (α := ?_) (f := ?_) (l := ?_) ?_ ?_); rotate_left; rotate_left; rotate_left; walk_at "gl")
  | ((with_reducible refine w_lenL (l := ?_) ?_ ?_); rotate_left; walk_at "gl")
  | ((with_reducible refine w_iterL (l := ?_) ?_ ?_); rotate_left; walk_at "gl"; dsimp only)
  | ((with_reducible refine w_tupL (l := ?_) ?_ ?_); rotate_left; walk_at "gl")
  | ((with_reducible refine w_ixT (d := ?_) ?_ ?_); rotate_left; (first | with_reducible assumption | rfl))
  | ((with_reducible refine w_ixL (l := ?_) (d := ?_) ?_ ?_ ?_); rotate_left; rotate_left; walk_at "gl"; (first | with_reducible assumption | rfl))
  | ((with_reducible refine w_addT ?_ ?_); walk_at "bd")
  | ((with_reducible refine ⟨?_, ?_⟩); (with_reducible (show isListD (.ref _) _ = true)); walk_at "il")
  | with_reducible refine w_tryK ?_
  | with_reducible refine w_raise ?_
  | with_reducible refine w_raise0 ?_
  | with_reducible refine w_isX ?_
  | ((with_reducible refine w_isXK (k := ?_) ?_ ?_); rotate_left; (first | with_reducible exact lkA | (apply lkB; decide +kernel; exact lkA) | (apply lkB; decide +kernel; apply lkB; decide +kernel; exact lkA) | (apply lkB; decide +kernel; apply lkB; decide +kernel; apply lkB; decide +kernel; exact lkA)))
  | with_reducible refine w_xf ?_
  | ((with_reducible refine w_xfK ?_ ?_ ?_); (exact List.mem_cons_self); (decide))
  | with_reducible refine w_eq (isN_xo _) ?_
  | with_reducible refine w_eq (dNeg_int _ _) ?_)
local macro_rules | `(tactic| walk_at "go") => `(tactic| (repeat (walk_at "w")); try dsimp only [List.set])
local macro_rules | `(tactic| walk_at "fn") => `(tactic| ((refine w_fun ?_); simp only [startD, List.map_cons, List.map_nil, List.reduceReplicate, Nat.reduceSub, List.cons_append, List.nil_append]; walk_at "go"))
theorem int_list54 {ys : List D} (h : ∀ (i : Nat) y, ys[i]? = some y → ∃ c, y = .int c) : ∃ cs : List Int, ys = cs.map .int := by
  obtain ⟨cs, e, _⟩ := ints_all (S := fun _ => True) (ys := ys) fun i y e => by obtain ⟨c, z⟩ := h i y e; exact ⟨c, z, True.intro⟩
  exact ⟨cs, e⟩
theorem n_names54 {c n : Int} (hn : 0 ≤ n ∧ n ≤ 8) {h : MH} : Sat (m_names_53c1e [.int c, .int n] h) (fun d h' => ∃ (i : Nat) (xs : List Str), d = .ref i ∧ Own h h' [(i, xs.map .str)] ∧ (xs.length : Int) = n ∧ xs.Nodup ∧ ∀ x ∈ xs, Nm x) noX := by
  walk_at "fn"
  refine w_pow (n := 18) (by decide) ?_
  walk_at "go"
  refine br_d (fun q => ?_) (fun q => ?_)
  · walk_at "go"
    exact (n_any hn).mono fun d h' hh => hh
  walk_at "go"
  have hu := mod_in c (n := 1000003) (by decide)
  generalize c % 1000003 = u at *
  refine ⟨rfl, ?_⟩
  walk_at "go"
  refine o_comp (fun _ y => ∃ x, y = .str x ∧ Ls 1 x) (Own.nil h) (by simp) (fun _ _ => rfl) ?_ ?_
  · intro k d h' hd _
    obtain ⟨hk, rfl⟩ := rangeD_get hd
    have hk' : k < 8 := hk
    have hkk : (0 + (k : Int)) * (0 + (k : Int)) ≤ 49 ∧ 0 ≤ (0 + (k : Int)) * (0 + (k : Int)) := by
      have e : (0 + (k : Int)) * (0 + (k : Int)) = ((k * k : Nat) : Int) := by push_cast; simp
      have := Nat.mul_le_mul (show k ≤ 7 by omega) (show k ≤ 7 by omega)
      rw [e]
      omega
    refine ⟨_, rfl, ?_⟩
    walk_at "go"
    exact w_ltr1 ⟨rfl, _, rfl, l1_ls _⟩
  intro ys hy hp i1 h1 o1
  obtain ⟨ns, rfl, hns⟩ := strs_P (S := fun _ x => Ls 1 x) hp
  have hns' : ∀ x ∈ ns, Ls 1 x := fun x hx => by
    obtain ⟨i, hi, rfl⟩ := List.mem_iff_getElem.mp hx
    exact hns i _ (List.getElem?_eq_getElem hi)
  have hy8 : ns.length = 8 := by simpa using hy
  have sm : (ns.map (·.length)).sum ≤ 8 := by
    rw [← hy8]
    clear hp hy hy8 o1 hns
    induction ns with
    | nil => simp
    | cons y ys ih =>
      have h1 := (hns' y List.mem_cons_self).1
      have h2 := ih fun z hz => hns' z (List.mem_cons_of_mem _ hz)
      simp only [List.map_cons, List.sum_cons, List.length_cons]
      omega
  walk_at "go"
  refine w_join (o1.atL 0 rfl) (by rw [show (Str.ofString "").length = 0 from rfl]; omega) ?_
  have hb := Ls.join hns'
  rw [hy8] at hb
  generalize Txt.join (Str.ofString "") ns = base at hb
  have hbl : base.length ≤ 1000000 := by rw [hb.1]; decide
  walk_at "go"
  refine br_d (fun c1 => ?_) (fun c1 => ?_)
  · walk_at "go"
    refine o_comp (fun k y => ∃ x, y = .str x ∧ Ls (k + 1) x ∧ (k : Int) < n) o1.none (by simp; omega) (fun _ _ => rfl) ?_ ?_
    · intro k d h' hd _
      obtain ⟨hk, rfl⟩ := rangeD_get hd
      refine ⟨_, rfl, ?_⟩
      walk_at "go"
      have := hb.to (a := 0 + (k : Int) + 1) (by omega) (by omega)
      rw [show (0 + (k : Int) + 1).toNat = k + 1 by omega] at this
      exact ⟨rfl, _, rfl, this, by omega⟩
    · intro ys hy hp i2 h2 o2
      obtain ⟨xs, rfl, hxs⟩ := strs_P (S := fun k x => Ls (k + 1) x ∧ (k : Int) < n) hp
      refine ⟨i2, xs, rfl, o2, by simp at hy; omega, nodup_P (fun x => (x.length : Int) - 1) fun i x hx => ?_, fun x hx => ?_⟩
      · rw [(hxs i x hx).1.1]; omega
      · obtain ⟨i, hi, rfl⟩ := List.mem_iff_getElem.mp hx
        obtain ⟨e1, e2⟩ := hxs i _ (List.getElem?_eq_getElem hi)
        exact e1.nm (by omega) (by omega)
  · walk_at "go"
    have ha := mod_in (u / 2) (n := 8) (by decide)
    generalize u / 2 % 8 = t at *
    have hs := mod_in (u / 16) (n := 8 - t) (by omega)
    walk_at "go"
    generalize hsz : t + 1 + u / 16 % (8 - t) = sz at *
    have hsz1 : t + 1 ≤ sz ∧ sz ≤ 8 := by omega
    refine o_new o1.none (by simp) fun iL h2 o2 => ?_
    walk_at "go"
    refine w_loop0 (fun k ρ h' => ∃ (o8 o9 : Option D) (xs : List Str), ρ = [some (.int c), some (.int n), some (.str (Str.ofString "abcdefghijklmnopqrstuvwxyz")), some (.int u), some (.str base), some (.int t), some (.int sz), some (.ref iL), o8, o9] ∧ Own h h' [(iL, xs.map .str)] ∧ xs.length = k ∧ ∀ (i : Nat) x, xs[i]? = some x → Ls sz.toNat x ∧ x.cps.toList[t.toNat]? = some (lt1 (u / 128 + (i : Int))))
      ⟨none, none, [], rfl, o2, rfl, fun i x hx => by simp at hx⟩ (fun _ _ _ _ => rfl) ?_ ?_
    · rintro k d ρ h' hd ⟨o8, o9, xs, rfl, o, hk, hxs⟩
      obtain ⟨hk', rfl⟩ := rangeD_get hd
      refine ⟨_, rfl, ?_⟩
      dsimp only [List.set]
      walk_at "go"
      refine w_ltr1 ?_
      walk_at "go"
      have hA := hb.to (a := t) ha.1 (by omega)
      refine w_addLs hA (l1_ls _) (by omega) fun hB => ?_
      walk_at "go"
      have hC := hb.from (a := t + 1) (by omega) (by omega)
      refine w_addLs hB hC (by omega) fun hD => ?_
      have hw8 : t.toNat + 1 + (8 - (t + 1).toNat) = 8 := by omega
      rw [hw8] at hD
      have hch : ((cutS base none (some t) ++ l1 (u / 128 + (0 + (k : Int)))) ++ cutS base (some (t + 1)) none).cps.toList[t.toNat]? = some (lt1 (u / 128 + (0 + (k : Int)))) := by
        have hl := hA.1
        rw [str_len] at hl
        rw [app_cps, app_cps, List.append_assoc, List.getElem?_append_right (by omega), hl, Nat.sub_self]
        rfl
      generalize (cutS base none (some t) ++ l1 (u / 128 + (0 + (k : Int)))) ++ cutS base (some (t + 1)) none = w at *
      have hwl : w.length ≤ 1000000 := by rw [hD.1]; decide
      walk_at "go"
      refine o_app o 0 rfl (by simp; omega) fun h5 o5 => ?_
      rw [List.set_cons_zero, map_app1] at o5
      refine ⟨_, _, _, rfl, o5, by simp [hk], fun i x hx => ?_⟩
      by_cases hi : i < xs.length
      · rw [List.getElem?_append_left hi] at hx
        exact hxs i x hx
      · rw [List.getElem?_append_right (by omega)] at hx
        have hi2 : i - xs.length = 0 := by
          rcases Nat.eq_zero_or_pos (i - xs.length) with z | z
          · exact z
          · rw [List.getElem?_eq_none (by simp; omega)] at hx; cases hx
        rw [hi2] at hx
        have hx : cutS w none (some sz) = x := by simpa using hx
        subst hx
        refine ⟨hD.to (by omega) (by omega), ?_⟩
        rw [cutP_to (by omega), List.getElem?_take_of_lt (by omega), hch]
        have : i = k := by omega
        rw [this, Int.zero_add]
    · rintro ρ h' ⟨o8, o9, xs, rfl, o, hk, hxs⟩
      rw [rangeD_length] at hk
      walk_at "go"
      refine ⟨iL, xs, rfl, o, by omega, nodup_P2 (fun x => x.cps.toList[t.toNat]?) (fun i => some (lt1 (u / 128 + (i : Int)))) (fun i x hx => (hxs i x hx).2) fun i j hij hj e => ?_, fun x hx => ?_⟩
      · have e : lt1 (u / 128 + (i : Int)) = lt1 (u / 128 + (j : Int)) := Option.some.inj e
        unfold lt1 at e
        omega
      · obtain ⟨i, hi, rfl⟩ := List.mem_iff_getElem.mp hx
        obtain ⟨e1, e2⟩ := hxs i _ (List.getElem?_eq_getElem hi)
        exact e1.nm (by omega) (by omega)

theorem k_numbers54 {ns : List Int} (hb : ∀ z ∈ ns, Cell z) (hn : ns.length ≤ 63) {h : MH} {i : Nat} (hl : getL h i = some (ns.map D.int)) {s m : Int} (h0 : 0 ≤ s ∧ s ≤ 1000) (hm1 : 0 ≤ m ∧ m ≤ 1000) :
    Sat (m_numbers_0d805 [.ref i, .int s, .int m] h) (fun d h' => ∃ (j : Nat) (xs : List Int), d = .ref j ∧ Own h h' [(j, xs.map .int)] ∧ (xs.length : Int) = m ∧ ∀ x ∈ xs, 0 ≤ x ∧ x < 67108864) noX := by
  walk_at "fn"
  refine o_comp (fun _ y => ∃ c, y = .int c) (Own.nil h) (by simp; omega) (fun _ _ => rfl) ?_ ?_
  · rintro k d h' hd pr
    obtain ⟨hk, rfl⟩ := rangeD_get hd
    refine ⟨_, rfl, ?_⟩
    dsimp only [wipeD, List.set]
    walk_at "go"
    refine (c_cell_at hb (pre_getL pr hl) (by omega)).mono ?_
    rintro d2 h2 ⟨rfl, c, rfl, _⟩
    exact ⟨rfl, c, rfl⟩
  rintro ys hy hp iC h1 o1
  obtain ⟨cs, rfl⟩ := int_list54 hp
  rw [List.length_map] at hy
  have hcl : 1 ≤ cs.length ∧ cs.length ≤ 1000 := by
    rw [hy]
    simp
    split <;> split <;> omega
  walk_at "go"
  refine o_new o1 (by simp) fun iL h2 o2 => ?_
  walk_at "go"
  refine w_loop0 (fun k ρ h' => ∃ (xs cs : List Int) (z : Int) (o6 o7 o8 : Option D), ρ = [some (.ref i), some (.int s), some (.int m), some (.ref iC), some (.ref iL), some (.int z), o6, o7, o8] ∧ Own h h' [(iL, xs.map .int), (iC, cs.map .int)] ∧ xs.length = k ∧ (∀ x ∈ xs, 0 ≤ x ∧ x < 67108864) ∧ (1 ≤ cs.length ∧ cs.length ≤ 1000) ∧ 0 ≤ z ∧ z < 2147483647)
    ⟨[], cs, 48271, none, none, none, rfl, o2, rfl, by simp, hcl, by omega, by omega⟩ (fun _ _ _ _ => rfl) ?_ ?_
  · rintro k d ρ h' hd ⟨xs, cs, z, o6, o7, o8, rfl, o, hk, hxb, hc, hz0, hz1⟩
    obtain ⟨hk', rfl⟩ := rangeD_get hd
    refine ⟨_, rfl, ?_⟩
    dsimp only [List.set]
    walk_at "go"
    refine (c_cell_at hb (pre_getL o.pre hl) (by omega)).mono ?_
    rintro d2 h3 ⟨rfl, c, rfl, _⟩
    have hm := mod_in c (n := 2147483647) (by decide)
    have hat := mod_in (0 + (k : Int)) (n := (cs.length : Int)) (by omega)
    walk_at "go"
    have hm2 := mod_in (z * 69621 + c % 2147483647 * 48271 + (0 + (k : Int)) * (0 + (k : Int)) + 1) (n := 2147483647) (by decide)
    generalize (z * 69621 + c % 2147483647 * 48271 + (0 + (k : Int)) * (0 + (k : Int)) + 1) % 2147483647 = z2 at *
    refine o_app o 0 rfl (by simp; omega) fun h4 o4 => ?_
    walk_at "go"
    obtain ⟨y, a1, a2⟩ := atI_in (l := cs.map D.int) hat.1 (by simpa using hat.2)
    rw [List.getElem?_map, Option.map_eq_some_iff] at a2
    obtain ⟨cc, a3, rfl⟩ := a2
    walk_at "go"
    refine w_pow (n := 18) (by decide) ?_
    walk_at "go"
    have e1 : xs.map D.int ++ [.int (z2 / 32)] = (xs ++ [z2 / 32]).map .int := by simp
    dsimp only [List.set] at o4
    rw [e1] at o4
    have hxb2 : ∀ x ∈ xs ++ [z2 / 32], 0 ≤ x ∧ x < 67108864 := fun x hx => by
      rcases List.mem_append.mp hx with hx | hx
      · exact hxb x hx
      · rw [List.mem_singleton.mp hx]; omega
    refine br_d (fun q => ?_) (fun q => ?_)
    · walk_at "go"
      refine o_set (m := k) o4 0 rfl ?_ fun h5 o5 => ?_
      · unfold ixN
        simp
        omega
      walk_at "go"
      have o6 := o5
      dsimp only [List.set] at o6
      refine o_set (m := ((0 + (k : Int)) % (cs.length : Int)).toNat) o6 1 rfl ?_ fun h6 o7 => ?_
      · unfold ixN
        simp only [List.length_map]
        rw [if_pos hat.1, if_pos hat.2]
      have e2 : ∀ (l : List Int) (j : Nat) (x : Int), (l.map D.int).set j (.int x) = (l.set j x).map .int := fun l j x => by rw [List.map_set]
      dsimp only [List.set] at o7
      rw [e2, e2] at o7
      exact ⟨_, _, _, _, _, _, rfl, o7, by simp [hk], fun x hx => by
        rcases List.mem_or_eq_of_mem_set hx with hx | hx
        · exact hxb2 x hx
        · rw [hx]; exact mod_in cc (n := 67108864) (by decide), by rw [List.length_set]; exact hc, hm2.1, hm2.2⟩
    · walk_at "go"
      exact ⟨_, _, _, _, _, _, rfl, o4, by simp [hk], hxb2, hc, hm2.1, hm2.2⟩
  · rintro ρ h' ⟨xs, cs, z, o6, o7, o8, rfl, o, hk, hxb, hc, hz0, hz1⟩
    walk_at "go"
    exact ⟨iL, xs, rfl, o.head, by rw [hk]; simp; omega, hxb⟩
theorem k_machine54 {xs : List Int} (hx : ∀ x ∈ xs, 0 ≤ x) {h : MH} {i jf jn : Nat} (gi : getL h i = some (xs.map .int)) {m : Int} (hm : 1 ≤ m ∧ m ≤ 8) {fs ns : List Str} (gf : getL h jf = some (fs.map .str)) (gn : getL h jn = some (ns.map .str)) (hfl : fs.length ≤ 20) (hnl : ns.length ≤ 20) (hl : (ns.length : Int) + 1 + m + m * m ≤ xs.length) (hxl : xs.length ≤ 1000) :
    Sat (m_machine_76c53 [.ref i, .int m, .ref jf, .ref jn] h) (fun d h' => h <+: h' ∧ ∃ st sp mk, d = gmD fs ns st sp mk ∧ GOk 8 fs ns st sp mk ∧ (sp.length : Int) = m) noX := by
  have hmm0 : m ≤ m * m := by
    have := Int.mul_le_mul_of_nonneg_left (show (1 : Int) ≤ m from hm.1) (show 0 ≤ m by omega)
    omega
  have hpos : (0 : Int) < 2 ^ fs.length := Int.pow_pos (by decide)
  have hp2 : (2 : Int) ^ fs.length ≤ 1048576 := by
    have : (2 : Int) ^ fs.length ≤ 2 ^ 20 := by
      have := Nat.pow_le_pow_right (n := 2) (by decide) hfl
      exact_mod_cast this
    exact Int.le_trans this (by decide)
  have at0 : ∀ j : Int, 0 ≤ j → j < xs.length → ∃ z, atI (xs.map D.int) j = some (.int z) ∧ 0 ≤ z := fun j a b => by
    obtain ⟨y, a1, a2⟩ := atI_in (l := xs.map D.int) a (by simpa using b)
    rw [List.getElem?_map, Option.map_eq_some_iff] at a2
    obtain ⟨z, a3, rfl⟩ := a2
    exact ⟨z, a1, hx z (List.mem_of_getElem? a3)⟩
  walk_at "fn"
  refine o_comp (fun _ y => ∃ z, y = .int z ∧ (0 ≤ z ∧ z < m)) (Own.nil h) (by rw [rangeD_length]; omega) (fun _ _ => rfl) ?_ ?_
  · intro k d h' hd hp
    obtain ⟨hk, rfl⟩ := rangeD_get hd
    have g1 := pre_getL hp gi
    obtain ⟨z, az, hz⟩ := at0 (0 + (k : Int)) (by omega) (by omega)
    refine ⟨_, rfl, ?_⟩
    dsimp only [wipeD, List.set]
    walk_at "go"
    exact ⟨rfl, _, rfl, mod_in z (by omega)⟩
  intro ys hy hys j1 h1 o1
  obtain ⟨st, rfl, hst⟩ := ints_all hys
  rw [List.length_map, rangeD_length] at hy
  walk_at "go"
  refine o_comp (fun _ y => ∃ z, y = .int z ∧ (0 ≤ z ∧ z < 2 ^ fs.length)) o1 (by rw [rangeD_length]; omega) (fun _ _ => rfl) ?_ ?_
  · intro k d h' hd hp
    obtain ⟨hk, rfl⟩ := rangeD_get hd
    have g1 := pre_getL hp (o1.getL gi)
    have g2 := pre_getL hp (o1.getL gf)
    obtain ⟨z, az, hz⟩ := at0 ((ns.length : Int) + 1 + (0 + (k : Int))) (by omega) (by omega)
    refine ⟨_, rfl, ?_⟩
    dsimp only [wipeD, List.set]
    generalize eP2 : (2 : Int) ^ fs.length = P2 at *
    walk_at "go"
    refine w_shl ⟨by omega, by decide⟩ ?_
    rw [Int.one_mul, eP2]
    walk_at "go"
    exact ⟨rfl, _, rfl, mod_in z (by omega)⟩
  intro ys hy2 hys j2 h2 o2
  obtain ⟨mk, rfl, hmk⟩ := ints_all hys
  rw [List.length_map, rangeD_length] at hy2
  walk_at "go"
  refine o_new o2 (by simp) fun js h3 o3 => ?_
  walk_at "go"
  refine w_loop0 (fun k ρ h' => ∃ (o8 : Option D) (sp : List (List Int)), ρ = [some (.ref i), some (.int m), some (.ref jf), some (.ref jn), some (.int ((ns.length : Int) + 1)), some (.tup (st.map .int)), some (.tup (mk.map .int)), some (.ref js), o8, none, none] ∧ Own h h' [(js, sp.map fun r => D.tup (r.map .int))] ∧ sp.length = k ∧ ∀ r ∈ sp, (r.length : Int) = m ∧ ∀ z ∈ r, 0 ≤ z ∧ z < m) ⟨none, [], rfl, o3.head, rfl, fun r hr => by simp at hr⟩ (fun _ _ _ _ => rfl) ?_ ?_
  · rintro k d ρ h' hd ⟨o8, sp, rfl, o, hk, hsp⟩
    obtain ⟨hkn, rfl⟩ := rangeD_get hd
    rw [show (0 : Int) + (k : Int) = (k : Int) by omega]
    have hmk1 : m * (k : Int) ≤ m * (m - 1) := Int.mul_le_mul_of_nonneg_left (by omega) (by omega)
    have hmk2 : m * (m - 1) = m * m - m := by rw [Int.mul_sub, Int.mul_one]
    have hmk3 : 0 ≤ m * (k : Int) := Int.mul_nonneg (by omega) (by omega)
    have hmk4 : m * m ≤ 64 := by
      have := Int.mul_le_mul (a := m) (b := m) (c := 8) (d := 8) (by omega) (by omega) (by omega) (by omega)
      omega
    refine ⟨_, rfl, ?_⟩
    dsimp only [List.set]
    walk_at "go"
    refine o_comp (fun _ y => ∃ z, y = .int z ∧ (0 ≤ z ∧ z < m)) o (by rw [rangeD_length]; omega) (fun _ _ => rfl) ?_ ?_
    · intro q d h4 hd hp
      obtain ⟨hq, rfl⟩ := rangeD_get hd
      have g1 := pre_getL hp (o.getL gi)
      obtain ⟨z, az, hz⟩ := at0 ((ns.length : Int) + 1 + m + m * (k : Int) + (0 + (q : Int))) (by omega) (by omega)
      refine ⟨_, rfl, ?_⟩
      dsimp only [wipeD, List.set]
      walk_at "go"
      exact ⟨rfl, _, rfl, mod_in z (by omega)⟩
    intro ys hy3 hys j4 h4 o4
    obtain ⟨r, rfl, hr⟩ := ints_all hys
    rw [List.length_map, rangeD_length] at hy3
    walk_at "go"
    refine o_app o4 1 rfl (by simp; omega) fun h5 o5 => ?_
    simp only [List.set_cons_succ, List.set_cons_zero] at o5
    refine ⟨_, sp ++ [r], rfl, ?_, by simp [hk], fun r' hr' => ?_⟩
    · rw [List.map_append]; exact o5.tail
    · rcases List.mem_append.mp hr' with q | q
      · exact hsp r' q
      · rw [List.mem_singleton] at q; subst q; exact ⟨by omega, hr⟩
  · rintro ρ h' ⟨o8, sp, rfl, o, hk, hsp⟩
    rw [rangeD_length] at hk
    have gf' := o.getL gf
    have gn' := o.getL gn
    have gs := o.atL 0 rfl
    walk_at "go"
    have hlen : (sp.length : Int) = m := by omega
    refine ⟨o.pre, st, sp, mk, rfl, ⟨by omega, by omega, fun r hr => ?_, by omega, fun z hz => ?_, by omega, hmk⟩, hlen⟩
    · obtain ⟨a, b⟩ := hsp r hr
      rw [hlen]
      exact ⟨by omega, b⟩
    · rw [hlen]
      exact hst z hz
end Mi

namespace Mi
open PySem L2
local macro_rules | `(tactic| walk_at "w") => `(tactic| first
  | with_reducible refine w_seq ?_
  | with_reducible refine w_asg ?_
  | with_reducible refine w_cons ?_
  | with_reducible refine w_nil ?_
  | with_reducible refine w_c ?_
  | ((with_reducible refine w_var (d := ?_) ?_ ?_); rotate_left; rfl)
  | with_reducible refine w_bin ?_
  | with_reducible refine w_call ?_
  | with_reducible refine w_if ?_
  | with_reducible refine w_B ?_
  | with_reducible refine w_unB ?_
  | with_reducible refine w_ret ?_
  | with_reducible refine w_drop ?_
  | with_reducible refine w_skip ?_
  | with_reducible refine w_eq (dAdd_int _ _ _) ?_
  | with_reducible refine w_eq (dSub_int _ _ _) ?_
  | with_reducible refine w_eq (dEq_int _ _ _) ?_
  | with_reducible refine w_eq (dEq_str _ _ _) ?_
  | with_reducible refine w_eq (dLt_int _ _ _) ?_
  | with_reducible refine w_eq (dLe_int _ _ _) ?_
  | with_reducible refine w_eq (dGt_int _ _ _) ?_
  | with_reducible refine w_eq (dGe_int _ _ _) ?_
  | with_reducible refine w_eq (dNe_int _ _ _) ?_
  | ((with_reducible refine w_mod ?_ ?_); (first | assumption | decide | omega))
  | ((with_reducible refine w_fdiv ?_ ?_); (first | assumption | decide | omega))
  | ((with_reducible refine w_mulS ?_ ?_); (first | decide | omega))
  | ((with_reducible refine w_addS ?_ ?_); (first | assumption | decide | omega))
  | ((with_reducible refine w_lenS ?_ ?_); (first | assumption | decide | omega))
  | ((with_reducible refine w_slS ?_ ?_); (first | assumption | decide | omega))
  | with_reducible refine w_eq (dLen_tup _ _) ?_
  | with_reducible refine w_eq (dSl_tup _ _ _ _) ?_
  | with_reducible refine w_eq (dMax_ev _ _ _) ?_
  | with_reducible refine w_eq (dMin_ev _ _ _) ?_
  | with_reducible refine w_eq (dAbs_ev _ _) ?_
  | with_reducible refine w_not ?_
  | with_reducible refine w_and ?_
  | with_reducible refine w_or ?_
  | with_reducible refine br_n ?_
  | with_reducible refine br_tt ?_
  | with_reducible refine br_ff ?_
  | ((with_reducible refine br_dt ?_ ?_); (first | assumption | omega))
  | ((with_reducible refine br_df ?_ ?_); (first | assumption | omega))
  | with_reducible refine w_tup ?_
  | ((with_reducible refine w_toTup ?_ ?_); exact (by simp))
  | with_reducible refine w_lst ?_
  | with_reducible refine w_lc ?_
  | with_reducible refine w_for ?_
  | with_reducible refine w_range1 ?_
  | with_reducible refine w_range2 ?_
  | ((with_reducible refine w_dR1 ?_ ?_); (first | decide | omega))
  | ((with_reducible refine w_dR2 ?_ ?_); (first | decide | omega))
  | with_reducible refine w_iter ?_
  | with_reducible refine w_eq (iter1_tup _ _) ?_
  | with_reducible refine w_eq (iter1_str _ _) ?_
  | with_reducible refine w_sl ?_
  | with_reducible refine w_no ?_
  | with_reducible refine w_some ?_
  | with_reducible refine w_unI ?_
  | with_reducible refine w_meth ?_
  | with_reducible refine w_isi ?_
  | with_reducible refine w_zip ?_
  | with_reducible refine w_ifE ?_
  | with_reducible refine w_andV ?_
  | with_reducible refine w_orV ?_
  | with_reducible refine w_notV ?_
  | with_reducible refine w_andK ?_
  | with_reducible refine w_orK ?_
  | with_reducible refine w_notK ?_
  | with_reducible refine w_revL ?_
  | with_reducible refine w_listRg1 ?_
  | with_reducible refine w_tindex ?_
  | with_reducible refine w_setIx ?_
  | with_reducible refine w_un ?_
  | with_reducible refine w_rev1 ?_
  | with_reducible refine w_rev2 ?_
  | with_reducible refine w_chain ?_
  | with_reducible refine w_chK ?_
  | with_reducible refine w_retN ?_
  | with_reducible refine w_brk ?_
  | with_reducible refine w_cont ?_
  | with_reducible refine w_asgT ?_
  | with_reducible refine w_eq (isi_str_str _ _) ?_
  | with_reducible refine w_eq (isi_int_int _ _) ?_
  | with_reducible refine w_eq (isi_tup_tup _ _) ?_)
local macro_rules | `(tactic| walk_at "go") => `(tactic| (repeat (walk_at "w")); try dsimp only [List.set])
local macro_rules | `(tactic| walk_at "fn") => `(tactic| ((refine w_fun ?_); simp only [startD, List.map_cons, List.map_nil, List.reduceReplicate, Nat.reduceSub, List.cons_append, List.nil_append]; walk_at "go"))
structure Tab (F K : List D) : Prop where
  fs : Wds 20 F
  fl : F.length ≤ 20
  k1 : 1 ≤ K.length
  k8 : K.length ≤ 8
  ks : InL (2 ^ F.length) K
theorem Wds.get {n : Nat} {l : List D} (h : Wds n l) {d : D} (hd : d ∈ l) : ∃ x, d = .str x ∧ Wd n x := by
  obtain ⟨ns, rfl, hn⟩ := h
  obtain ⟨x, hx, rfl⟩ := List.mem_map.mp hd
  exact ⟨x, rfl, hn x hx⟩
theorem Wds.nil (n : Nat) : Wds n [] := ⟨[], rfl, fun x hx => by simp at hx⟩
def nletters : Str := Str.ofString "nopqrstuvwxyzabcdefghijklm"
/-! the marks' forms -/
def sel (v : Int) (F : List D) : Nat → List D
  | 0 => []
  | k + 1 => sel v F k ++ match F[k]? with
    | some d => if v / 2 ^ k % 2 = 1 then [d] else []
    | none => []
abbrev HP := Nat × Nat × List D
def hCells (ps : List HP) : LL := ps.flatMap fun p => [(p.1, p.2.2), (p.2.1, p.2.2)]
def hItems (ps : List HP) : List D := ps.reverse.map fun p => .tup [.ref p.1, .ref p.2.1]
theorem Wds.eqL {n : Nat} {l : List D} (hw : Wds n l) {h : MH} {i j : Nat} (hi : getL h i = some l) (hj : getL h j = some l) : eqD (.ref i) (.ref j) h = some true := by
  obtain ⟨ns, rfl, hn⟩ := hw
  rw [scal_str.eqL hi hj (fun a ha => (hn a ha).2) (fun a ha => (hn a ha).2)]
  simp
end Mi

namespace Mi
open PySem L2
local macro_rules | `(tactic| walk_at "w") => `(tactic| first
  | with_reducible refine w_seq ?_
  | with_reducible refine w_asg ?_
  | with_reducible refine w_cons ?_
  | with_reducible refine w_nil ?_
  | with_reducible refine w_c ?_
  | ((with_reducible refine w_var (d := ?_) ?_ ?_); rotate_left; rfl)
  | with_reducible refine w_bin ?_
  | with_reducible refine w_call ?_
  | with_reducible refine w_if ?_
  | with_reducible refine w_B ?_
  | with_reducible refine w_unB ?_
  | with_reducible refine w_ret ?_
  | with_reducible refine w_drop ?_
  | with_reducible refine w_skip ?_
  | with_reducible refine w_eq (dAdd_int _ _ _) ?_
  | with_reducible refine w_eq (dSub_int _ _ _) ?_
  | with_reducible refine w_eq (dEq_int _ _ _) ?_
  | with_reducible refine w_eq (dEq_str _ _ _) ?_
  | with_reducible refine w_eq (dLt_int _ _ _) ?_
  | with_reducible refine w_eq (dLe_int _ _ _) ?_
  | with_reducible refine w_eq (dGt_int _ _ _) ?_
  | with_reducible refine w_eq (dGe_int _ _ _) ?_
  | with_reducible refine w_eq (dNe_int _ _ _) ?_
  | ((with_reducible refine w_mod ?_ ?_); (first | assumption | decide | omega))
  | ((with_reducible refine w_fdiv ?_ ?_); (first | assumption | decide | omega))
  | ((with_reducible refine w_mulS ?_ ?_); (first | decide | omega))
  | ((with_reducible refine w_addS ?_ ?_); (first | assumption | decide | omega))
  | ((with_reducible refine w_lenS ?_ ?_); (first | assumption | decide | omega))
  | ((with_reducible refine w_slS ?_ ?_); (first | assumption | decide | omega))
  | with_reducible refine w_eq (dLen_tup _ _) ?_
  | with_reducible refine w_eq (dSl_tup _ _ _ _) ?_
  | with_reducible refine w_eq (dMax_ev _ _ _) ?_
  | with_reducible refine w_eq (dMin_ev _ _ _) ?_
  | with_reducible refine w_eq (dAbs_ev _ _) ?_
  | with_reducible refine w_not ?_
  | with_reducible refine w_and ?_
  | with_reducible refine w_or ?_
  | with_reducible refine br_n ?_
  | with_reducible refine br_tt ?_
  | with_reducible refine br_ff ?_
  | ((with_reducible refine br_dt ?_ ?_); (first | assumption | omega))
  | ((with_reducible refine br_df ?_ ?_); (first | assumption | omega))
  | with_reducible refine w_tup ?_
  | ((with_reducible refine w_toTup ?_ ?_); exact (by simp))
  | with_reducible refine w_lst ?_
  | with_reducible refine w_lc ?_
  | with_reducible refine w_for ?_
  | with_reducible refine w_range1 ?_
  | with_reducible refine w_range2 ?_
  | ((with_reducible refine w_dR1 ?_ ?_); (first | decide | omega))
  | ((with_reducible refine w_dR2 ?_ ?_); (first | decide | omega))
  | with_reducible refine w_iter ?_
  | with_reducible refine w_eq (iter1_tup _ _) ?_
  | with_reducible refine w_eq (iter1_str _ _) ?_
  | with_reducible refine w_sl ?_
  | with_reducible refine w_no ?_
  | with_reducible refine w_some ?_
  | with_reducible refine w_unI ?_
  | with_reducible refine w_meth ?_
  | with_reducible refine w_isi ?_
  | with_reducible refine w_zip ?_
  | with_reducible refine w_ifE ?_
  | with_reducible refine w_andV ?_
  | with_reducible refine w_orV ?_
  | with_reducible refine w_notV ?_
  | with_reducible refine w_andK ?_
  | with_reducible refine w_orK ?_
  | with_reducible refine w_notK ?_
  | with_reducible refine w_revL ?_
  | with_reducible refine w_listRg1 ?_
  | with_reducible refine w_tindex ?_
  | with_reducible refine w_setIx ?_
  | with_reducible refine w_un ?_
  | with_reducible refine w_rev1 ?_
  | with_reducible refine w_rev2 ?_
  | with_reducible refine w_chain ?_
  | with_reducible refine w_chK ?_
  | with_reducible refine w_retN ?_
  | with_reducible refine w_brk ?_
  | with_reducible refine w_cont ?_
  | with_reducible refine w_asgT ?_
  | with_reducible refine w_eq (isi_str_str _ _) ?_
  | with_reducible refine w_eq (isi_int_int _ _) ?_
  | with_reducible refine w_eq (isi_tup_tup _ _) ?_
  | with_reducible refine w_eq (isi_bool_int _ _) ?_
  | with_reducible refine w_eq (isi_str_int _ _) ?_
  | with_reducible refine w_eq (dNeg_int _ _) ?_)
local macro_rules | `(tactic| walk_at "go") => `(tactic| (repeat (walk_at "w")); try dsimp only [List.set])
local macro_rules | `(tactic| walk_at "fn") => `(tactic| ((refine w_fun ?_); simp only [startD, List.map_cons, List.map_nil, List.reduceReplicate, Nat.reduceSub, List.cons_append, List.nil_append]; walk_at "go"))
theorem InL.ints {m : Int} : ∀ {l : List D}, InL m l → ∃ zs : List Int, l = zs.map .int ∧ ∀ z ∈ zs, 0 ≤ z ∧ z < m
  | [], _ => ⟨[], rfl, fun z hz => by simp at hz⟩
  | d :: l, h => by
    obtain ⟨v, rfl, hv⟩ := h d List.mem_cons_self
    obtain ⟨zs, rfl, hz⟩ := InL.ints (l := l) fun e he => h e (List.mem_cons_of_mem _ he)
    refine ⟨v :: zs, rfl, fun z hm => ?_⟩
    rcases List.mem_cons.mp hm with rfl | hm
    · exact hv
    · exact hz z hm
def startI (nl : List Str) (sv : List Int) (x : Str) : Int := match fidx x nl with
  | some j => sv.getD j 0
  | none => sv.getLastD 0
theorem getD_mem {l : List Int} {j : Nat} (h : j < l.length) : l.getD j 0 ∈ l := by
  rw [List.getD_eq_getElem?_getD, List.getElem?_eq_getElem h]
  exact List.getElem_mem h
theorem at_nat {l : List Int} {j : Nat} (h : j < l.length) : atI (l.map D.int) (j : Int) = some (.int (l.getD j 0)) := by
  refine atI_at ?_
  rw [List.getElem?_map, List.getD_eq_getElem?_getD, List.getElem?_eq_getElem h]
  rfl
def tAt (T : List D) (a b : Int) : Int := match T[a.toNat]? with
  | some (.tup l) => match l[b.toNat]? with
    | some (.int v) => v
    | _ => 0
  | _ => 0
/-- a machine's tables, plainly -/
structure Mc (nl : List Str) (sv : List Int) (T : List D) (m : Int) : Prop where
  ss : ∀ z ∈ sv, 0 ≤ z ∧ z < m
  sl : sv.length = nl.length + 1
  tl : (T.length : Int) = m
  ts : ∀ r ∈ T, ∃ l, r = .tup l ∧ (l.length : Int) = m ∧ InL m l
abbrev tabD (F0 : D) (nl : List Str) (sv : List Int) (T : List D) (K0 : D) : D := .tup [F0, .tup (nl.map .str), .tup (sv.map .int), .tup T, K0]
section
variable {F0 K0 : D} {nl : List Str} {sv : List Int} {T : List D} {m : Int} {h : MH}
/-! documents by their places -/
abbrev KC := List (Nat × List Nat)
def cellsK (kc : KC) : LL := kc.map fun p => (p.1, p.2.map fun (j : Nat) => D.int (j : Int))
def KOk (kc : KC) : Prop := ∀ (a : Nat) p, kc[a]? = some p → ∀ j ∈ p.2, a < j ∧ j < kc.length
def DAt (docs : List D) (kc : KC) (a : Nat) : Prop := ∃ (p : Nat × List Nat) (x : Str) (ds : List D), kc[a]? = some p ∧ docs[a]? = some (.tup [.str x, .tup ds]) ∧ Wd 20 x ∧ ds.length = p.2.length ∧ ∀ (t j : Nat), p.2[t]? = some j → ds[t]? = docs[j]?
def SAt (nl : List Str) (sv : List Int) (T : List D) (docs : List D) (kc : KC) (sl : List Int) (a : Nat) : Prop := ∀ p x ds, kc[a]? = some p → docs[a]? = some (.tup [.str x, .tup ds]) → sl.getD a 0 = (p.2.map fun j => sl.getD j 0).foldl (tAt T) (startI nl sv x)
end
/-! the drawn documents -/
theorem ixN_nat {n k : Nat} (h : k < n) : ixN n (k : Int) = some k := by
  unfold ixN
  rw [if_pos (by omega), if_pos (by omega)]
  simp
def KU (kc : KC) : Prop := (∀ (a b : Nat) (p q : Nat × List Nat) (j : Nat), kc[a]? = some p → kc[b]? = some q → j ∈ p.2 → j ∈ q.2 → a = b) ∧ ∀ p ∈ kc, p.2.Nodup
theorem kset_mem {kc : KC} {a k' b j : Nat} {p r : Nat × List Nat} (ep : kc[a]? = some p) (er : (kc.set a (p.1, p.2 ++ [k']))[b]? = some r) (hj : j ∈ r.2) : (b = a ∧ j = k') ∨ ∃ q, kc[b]? = some q ∧ j ∈ q.2 := by
  have hak := (List.getElem?_eq_some_iff.mp ep).1
  by_cases hab : a = b
  · subst hab
    rw [List.getElem?_set_self hak] at er
    cases er
    rcases List.mem_append.mp hj with hj | hj
    · exact .inr ⟨p, ep, hj⟩
    · exact .inl ⟨rfl, List.mem_singleton.mp hj⟩
  · rw [List.getElem?_set_ne hab] at er
    exact .inr ⟨r, er, hj⟩
theorem KU.app {kc : KC} (h : KU kc) {a k' : Nat} {p : Nat × List Nat} (ep : kc[a]? = some p) (hlt : ∀ q ∈ kc, ∀ j ∈ q.2, j < k') : KU (kc.set a (p.1, p.2 ++ [k'])) := by
  refine ⟨fun b1 b2 r1 r2 j e1 e2 h1 h2 => ?_, fun r hr => ?_⟩
  · rcases kset_mem ep e1 h1 with ⟨q1, q2⟩ | ⟨q1, q2, q3⟩ <;> rcases kset_mem ep e2 h2 with ⟨t1, t2⟩ | ⟨t1, t2, t3⟩
    · omega
    · have := hlt t1 (List.mem_of_getElem? t2) j t3; omega
    · have := hlt q1 (List.mem_of_getElem? q2) j q3; omega
    · exact h.1 _ _ _ _ j q2 t2 q3 t3
  · rcases List.mem_or_eq_of_mem_set hr with q | q
    · exact h.2 r q
    · rw [q]
      refine List.nodup_append.mpr ⟨h.2 p (List.mem_of_getElem? ep), by simp, fun x hx y hy => ?_⟩
      have := hlt p (List.mem_of_getElem? ep) x hx
      rw [List.mem_singleton.mp hy]
      omega
theorem DAt.keep {docs : List D} {kc : KC} (hk : KOk kc) {a b : Nat} {d : D} (hab : b < a) (h : DAt docs kc a) : DAt (docs.set b d) kc a := by
  obtain ⟨p, x, ds, e1, e2, hx, e3, e4⟩ := h
  refine ⟨p, x, ds, e1, by rw [List.getElem?_set_ne (by omega)]; exact e2, hx, e3, fun t j ej => ?_⟩
  have := hk a p e1 j (List.mem_of_getElem? ej)
  rw [List.getElem?_set_ne (by omega)]
  exact e4 t j ej
theorem SAt.keep {nl : List Str} {sv : List Int} {T docs : List D} {kc : KC} {sl : List Int} (hk : KOk kc) {a b : Nat} {v : Int} (hab : b < a) (h : SAt nl sv T docs kc sl a) : SAt nl sv T docs kc (sl.set b v) a := by
  intro p x ds e1 e2
  have := h p x ds e1 e2
  have gd : ∀ j, b < j → (sl.set b v).getD j 0 = sl.getD j 0 := fun j hj => by
    rw [List.getD_eq_getElem?_getD, List.getD_eq_getElem?_getD, List.getElem?_set_ne (by omega)]
  rw [gd a hab, this]
  congr 1
  refine List.map_congr_left fun j hj => (gd j ?_).symm
  have := hk a p e1 j hj
  omega
theorem Mach.mc {F N S T K : List D} {m : Int} (h : Mach F N S T K m) : ∃ nl sv, N = nl.map .str ∧ S = sv.map .int ∧ Mc nl sv T m := by
  obtain ⟨nl, rfl, _⟩ := h.ns
  obtain ⟨sv, rfl, hs⟩ := h.ss.ints
  exact ⟨nl, sv, rfl, rfl, hs, by simpa using h.sl, h.tl, h.ts⟩
end Mi

namespace Mi
open PySem L2
end Mi

namespace Mi
open PySem L2
def badOf (fs : List Str) (w : Int) (new f o : Str) : Str := if f ∉ fs then f else if w < 2 ∧ o ∉ fs then o else if new ∈ fs then new else Str.ofString ""
end Mi

namespace Mi
open PySem L2
/-- the bit j of m is set -/
def bt (m : Int) (j : Nat) : Bool := m.toNat.testBit j
end Mi

namespace Mi
open PySem L2
local macro_rules | `(tactic| walk_at "gl") => `(tactic| first
  | assumption
  | (refine Own.atL (h0 := ?_) (L := ?_) ?_ 0 ?_; rotate_left; rotate_left; assumption; rfl)
  | (refine Own.atL (h0 := ?_) (L := ?_) ?_ 1 ?_; rotate_left; rotate_left; assumption; rfl)
  | (refine Own.atL (h0 := ?_) (L := ?_) ?_ 2 ?_; rotate_left; rotate_left; assumption; rfl)
  | (refine Own.atL (h0 := ?_) (L := ?_) ?_ 3 ?_; rotate_left; rotate_left; assumption; rfl)
  | (refine Own.atL (h0 := ?_) (L := ?_) ?_ 4 ?_; rotate_left; rotate_left; assumption; rfl)
  | (refine Own.atL (h0 := ?_) (L := ?_) ?_ 5 ?_; rotate_left; rotate_left; assumption; rfl)
  | (refine Own.atL (h0 := ?_) (L := ?_) ?_ 6 ?_; rotate_left; rotate_left; assumption; rfl)
  | (refine Own.atL (h0 := ?_) (L := ?_) ?_ 7 ?_; rotate_left; rotate_left; assumption; rfl)
  | (refine Own.atL (h0 := ?_) (L := ?_) ?_ 8 ?_; rotate_left; rotate_left; assumption; rfl)
  | (refine Own.atL (h0 := ?_) (L := ?_) ?_ 9 ?_; rotate_left; rotate_left; assumption; rfl)
  | (refine Own.getL (h0 := ?_) (L := ?_) ?_ ?_; rotate_left; rotate_left; assumption; assumption))
local macro_rules | `(tactic| walk_at "il") => `(tactic| first
  | (refine Own.isL (h0 := ?_) (L := ?_) (l := ?_) ?_ 0 ?_; rotate_left; rotate_left; rotate_left; assumption; rfl)
  | (refine Own.isL (h0 := ?_) (L := ?_) (l := ?_) ?_ 1 ?_; rotate_left; rotate_left; rotate_left; assumption; rfl)
  | (refine Own.isL (h0 := ?_) (L := ?_) (l := ?_) ?_ 2 ?_; rotate_left; rotate_left; rotate_left; assumption; rfl)
  | (refine Own.isL (h0 := ?_) (L := ?_) (l := ?_) ?_ 3 ?_; rotate_left; rotate_left; rotate_left; assumption; rfl)
  | (refine Own.isL (h0 := ?_) (L := ?_) (l := ?_) ?_ 4 ?_; rotate_left; rotate_left; rotate_left; assumption; rfl)
  | (refine Own.isL (h0 := ?_) (L := ?_) (l := ?_) ?_ 5 ?_; rotate_left; rotate_left; rotate_left; assumption; rfl)
  | (refine Own.isL (h0 := ?_) (L := ?_) (l := ?_) ?_ 6 ?_; rotate_left; rotate_left; rotate_left; assumption; rfl)
  | (refine Own.isL (h0 := ?_) (L := ?_) (l := ?_) ?_ 7 ?_; rotate_left; rotate_left; rotate_left; assumption; rfl)
  | (refine Own.isL (h0 := ?_) (L := ?_) (l := ?_) ?_ 8 ?_; rotate_left; rotate_left; rotate_left; assumption; rfl)
  | (refine Own.isL (h0 := ?_) (L := ?_) (l := ?_) ?_ 9 ?_; rotate_left; rotate_left; rotate_left; assumption; rfl))
local macro_rules | `(tactic| walk_at "bd") => `(tactic| first | assumption | omega | (simp; done) | (simp; omega) | (simp [*]; done) | (simp [*]; omega))
local macro_rules | `(tactic| walk_at "w") => `(tactic| first
  | with_reducible refine w_seq ?_
  | with_reducible refine w_asg ?_
  | with_reducible refine w_cons ?_
  | with_reducible refine w_nil ?_
  | with_reducible refine w_c ?_
  | ((with_reducible refine w_var (d := ?_) ?_ ?_); rotate_left; rfl)
  | with_reducible refine w_bin ?_
  | with_reducible refine w_call ?_
  | with_reducible refine w_if ?_
  | with_reducible refine w_B ?_
  | with_reducible refine w_unB ?_
  | with_reducible refine w_ret ?_
  | with_reducible refine w_drop ?_
  | with_reducible refine w_skip ?_
  | with_reducible refine w_eq (dAdd_int _ _ _) ?_
  | with_reducible refine w_eq (dSub_int _ _ _) ?_
  | with_reducible refine w_eq (dEq_int _ _ _) ?_
  | with_reducible refine w_eq (dEq_str _ _ _) ?_
  | with_reducible refine w_eq (dNe_strs _ _ _) ?_
  | with_reducible refine w_eq (dEq_bls _ _ _) ?_
  | with_reducible refine w_eq (dNe_bls _ _ _) ?_
  | with_reducible refine w_eq (dLt_int _ _ _) ?_
  | with_reducible refine w_eq (dLe_int _ _ _) ?_
  | with_reducible refine w_eq (dGt_int _ _ _) ?_
  | with_reducible refine w_eq (dGe_int _ _ _) ?_
  | with_reducible refine w_eq (dNe_int _ _ _) ?_
  | ((with_reducible refine w_mod ?_ ?_); (first | assumption | decide | omega))
  | ((with_reducible refine w_fdiv ?_ ?_); (first | assumption | decide | omega))
  | ((with_reducible refine w_mulS ?_ ?_); (first | decide | omega))
  | ((with_reducible refine w_addS ?_ ?_); (first | assumption | decide | omega))
  | ((with_reducible refine w_lenS ?_ ?_); (first | assumption | decide | omega))
  | ((with_reducible refine w_slS ?_ ?_); (first | assumption | decide | omega))
  | with_reducible refine w_lenTm ?_
  | with_reducible refine w_eq (dLen_tup _ _) ?_
  | with_reducible refine w_eq (dSl_tup _ _ _ _) ?_
  | with_reducible refine w_eq (dMax_ev _ _ _) ?_
  | with_reducible refine w_eq (dMin_ev _ _ _) ?_
  | with_reducible refine w_eq (dAbs_ev _ _) ?_
  | with_reducible refine w_not ?_
  | with_reducible refine w_and ?_
  | with_reducible refine w_or ?_
  | with_reducible refine br_n ?_
  | with_reducible refine br_tt ?_
  | with_reducible refine br_ff ?_
  | ((with_reducible refine br_dt ?_ ?_); (first | assumption | omega | rfl))
  | ((with_reducible refine br_df ?_ ?_); (first | assumption | omega))
  | with_reducible refine w_tup ?_
  | ((with_reducible refine w_toTup ?_ ?_); exact (by simp))
  | with_reducible refine w_lst ?_
  | with_reducible refine w_lc ?_
  | with_reducible refine w_for ?_
  | with_reducible refine w_range1 ?_
  | with_reducible refine w_range2 ?_
  | ((with_reducible refine w_dR1 ?_ ?_); (first | decide | omega))
  | ((with_reducible refine w_dR2 ?_ ?_); (first | decide | omega))
  | with_reducible refine w_iter ?_
  | with_reducible refine w_eq (iter1_tup _ _) ?_
  | with_reducible refine w_eq (iter1_str _ _) ?_
  | with_reducible refine w_sl ?_
  | with_reducible refine w_no ?_
  | with_reducible refine w_some ?_
  | with_reducible refine w_unI ?_
  | with_reducible refine w_meth ?_
  | with_reducible refine w_isi ?_
  | with_reducible refine w_zip ?_
  | with_reducible refine w_ifE ?_
  | with_reducible refine w_andV ?_
  | with_reducible refine w_orV ?_
  | with_reducible refine w_notV ?_
  | with_reducible refine w_andK ?_
  | with_reducible refine w_orK ?_
  | with_reducible refine w_notK ?_
  | with_reducible refine w_revL ?_
  | with_reducible refine w_listRg1 ?_
  | with_reducible refine w_tindex ?_
  | with_reducible refine w_setIx ?_
  | with_reducible refine w_un ?_
  | with_reducible refine w_rev1 ?_
  | with_reducible refine w_rev2 ?_
  | with_reducible refine w_chain ?_
  | with_reducible refine w_chK ?_
  | with_reducible refine w_retN ?_
  | with_reducible refine w_brk ?_
  | with_reducible refine w_cont ?_
  | with_reducible refine w_asgT ?_
  | with_reducible refine w_eq (isi_str_str _ _) ?_
  | with_reducible refine w_eq (isi_int_int _ _) ?_
  | with_reducible refine w_eq (isi_tup_tup _ _) ?_
  | with_reducible refine w_eq (isi_bool_int _ _) ?_
  | with_reducible refine w_eq (isi_str_int _ _) ?_
  | ((with_reducible refine w_lenLm (α := ?_) (f := ?_) (l := ?_) ?_ ?_); rotate_left; rotate_left; rotate_left; walk_at "gl")
  | ((with_reducible refine w_lenL (l := ?_) ?_ ?_); rotate_left; walk_at "gl")
  | ((with_reducible refine w_iterL (l := ?_) ?_ ?_); rotate_left; walk_at "gl"; dsimp only)
  | ((with_reducible refine w_tupL (l := ?_) ?_ ?_); rotate_left; walk_at "gl")
  | ((with_reducible refine w_ixT (d := ?_) ?_ ?_); rotate_left; (first | with_reducible assumption | rfl))
  | ((with_reducible refine w_ixL (l := ?_) (d := ?_) ?_ ?_ ?_); rotate_left; rotate_left; walk_at "gl"; (first | with_reducible assumption | rfl))
  | ((with_reducible refine w_addT ?_ ?_); walk_at "bd")
  | ((with_reducible refine ⟨?_, ?_⟩); (with_reducible (show isListD (.ref _) _ = true)); walk_at "il")
  | with_reducible refine w_tryK ?_
  | with_reducible refine w_raise ?_
  | with_reducible refine w_raise0 ?_
  | with_reducible refine w_isX ?_
  | ((with_reducible refine w_isXK (k := ?_) ?_ ?_); rotate_left; (first | with_reducible exact lkA | (apply lkB; decide +kernel; exact lkA) | (apply lkB; decide +kernel; apply lkB; decide +kernel; exact lkA) | (apply lkB; decide +kernel; apply lkB; decide +kernel; apply lkB; decide +kernel; exact lkA)))
  | with_reducible refine w_xf ?_
  | ((with_reducible refine w_xfK ?_ ?_ ?_); (exact List.mem_cons_self); (decide))
  | with_reducible refine w_eq (isN_xo _) ?_
  | with_reducible refine w_eq (dNeg_int _ _) ?_)
local macro_rules | `(tactic| walk_at "go") => `(tactic| (repeat (walk_at "w")); try dsimp only [List.set])
local macro_rules | `(tactic| walk_at "fn") => `(tactic| ((refine w_fun ?_); simp only [startD, List.map_cons, List.map_nil, List.reduceReplicate, Nat.reduceSub, List.cons_append, List.nil_append]; walk_at "go"))
def mkN (t : Int) : List Int → List Bool → List Int
  | m :: ms, b :: bs => (m + t * (if b then 1 else 0)) :: mkN t ms bs
  | _, _ => []
theorem take_snoc {α : Type} {l : List α} {k : Nat} {x : α} (e : l[k]? = some x) : l.take (k + 1) = l.take k ++ [x] := by
  rw [List.take_succ, e]; rfl
/-! equal values -/
def PyL (n k : Nat) (h : MH) (d : D) : Prop := ∃ e, pyOf n h d = some e ∧ PyData.canLay0 e = true ∧ PyData.depth e ≤ k
theorem pyL_all {n k : Nat} {h : MH} : ∀ {l : List D}, (∀ x ∈ l, PyL n k h x) → ∃ es, allSome (l.map (pyOf n h)) = some es ∧ PyData.canLayAll0 es = true ∧ PyData.depthAll es ≤ k
  | [], _ => ⟨[], rfl, rfl, Nat.zero_le _⟩
  | x :: l, hx => by
    obtain ⟨e, e1, e2, e3⟩ := hx x List.mem_cons_self
    obtain ⟨es, f1, f2, f3⟩ := pyL_all (l := l) fun y hy => hx y (List.mem_cons_of_mem _ hy)
    refine ⟨e :: es, ?_, ?_, ?_⟩
    · rw [List.map_cons, e1, allSome, f1]; rfl
    · rw [PyData.canLayAll0, e2, f2]; rfl
    · rw [PyData.depthAll]; omega
theorem PyL.tup {n k : Nat} {h : MH} {l : List D} (hl : ∀ x ∈ l, PyL n k h x) : PyL (n + 1) (k + 1) h (.tup l) := by
  obtain ⟨es, f1, f2, f3⟩ := pyL_all hl
  exact ⟨.tuple es, by rw [pyOf, f1]; rfl, by rw [PyData.canLay0]; exact f2, by rw [PyData.depth]; omega⟩
theorem PyL.mono {n k m : Nat} {h : MH} {d : D} (p : PyL n k h d) (q : k ≤ m) : PyL n m h d := by
  obtain ⟨e, e1, e2, e3⟩ := p
  exact ⟨e, e1, e2, by omega⟩
theorem Nm.ok {x : Str} (h : Nm x) : OkS x := fun c hc => by
  have := h.2.2 c hc
  unfold Ltr at this
  omega
end Mi

namespace Mi
open PySem L2
local macro_rules | `(tactic| walk_at "gl") => `(tactic| first
  | assumption
  | (refine Own.atL (h0 := ?_) (L := ?_) ?_ 0 ?_; rotate_left; rotate_left; assumption; rfl)
  | (refine Own.atL (h0 := ?_) (L := ?_) ?_ 1 ?_; rotate_left; rotate_left; assumption; rfl)
  | (refine Own.atL (h0 := ?_) (L := ?_) ?_ 2 ?_; rotate_left; rotate_left; assumption; rfl)
  | (refine Own.atL (h0 := ?_) (L := ?_) ?_ 3 ?_; rotate_left; rotate_left; assumption; rfl)
  | (refine Own.atL (h0 := ?_) (L := ?_) ?_ 4 ?_; rotate_left; rotate_left; assumption; rfl)
  | (refine Own.atL (h0 := ?_) (L := ?_) ?_ 5 ?_; rotate_left; rotate_left; assumption; rfl)
  | (refine Own.atL (h0 := ?_) (L := ?_) ?_ 6 ?_; rotate_left; rotate_left; assumption; rfl)
  | (refine Own.atL (h0 := ?_) (L := ?_) ?_ 7 ?_; rotate_left; rotate_left; assumption; rfl)
  | (refine Own.atL (h0 := ?_) (L := ?_) ?_ 8 ?_; rotate_left; rotate_left; assumption; rfl)
  | (refine Own.atL (h0 := ?_) (L := ?_) ?_ 9 ?_; rotate_left; rotate_left; assumption; rfl)
  | (refine Own.getL (h0 := ?_) (L := ?_) ?_ ?_; rotate_left; rotate_left; assumption; assumption))
local macro_rules | `(tactic| walk_at "il") => `(tactic| first
  | (refine Own.isL (h0 := ?_) (L := ?_) (l := ?_) ?_ 0 ?_; rotate_left; rotate_left; rotate_left; assumption; rfl)
  | (refine Own.isL (h0 := ?_) (L := ?_) (l := ?_) ?_ 1 ?_; rotate_left; rotate_left; rotate_left; assumption; rfl)
  | (refine Own.isL (h0 := ?_) (L := ?_) (l := ?_) ?_ 2 ?_; rotate_left; rotate_left; rotate_left; assumption; rfl)
  | (refine Own.isL (h0 := ?_) (L := ?_) (l := ?_) ?_ 3 ?_; rotate_left; rotate_left; rotate_left; assumption; rfl)
  | (refine Own.isL (h0 := ?_) (L := ?_) (l := ?_) ?_ 4 ?_; rotate_left; rotate_left; rotate_left; assumption; rfl)
  | (refine Own.isL (h0 := ?_) (L := ?_) (l := ?_) ?_ 5 ?_; rotate_left; rotate_left; rotate_left; assumption; rfl)
  | (refine Own.isL (h0 := ?_) (L := ?_) (l := ?_) ?_ 6 ?_; rotate_left; rotate_left; rotate_left; assumption; rfl)
  | (refine Own.isL (h0 := ?_) (L := ?_) (l := ?_) ?_ 7 ?_; rotate_left; rotate_left; rotate_left; assumption; rfl)
  | (refine Own.isL (h0 := ?_) (L := ?_) (l := ?_) ?_ 8 ?_; rotate_left; rotate_left; rotate_left; assumption; rfl)
  | (refine Own.isL (h0 := ?_) (L := ?_) (l := ?_) ?_ 9 ?_; rotate_left; rotate_left; rotate_left; assumption; rfl))
local macro_rules | `(tactic| walk_at "bd") => `(tactic| first | assumption | omega | (simp; done) | (simp; omega) | (simp [*]; done) | (simp [*]; omega))
local macro_rules | `(tactic| walk_at "w") => `(tactic| first
  | with_reducible refine w_seq ?_
  | with_reducible refine w_asg ?_
  | with_reducible refine w_cons ?_
  | with_reducible refine w_nil ?_
  | with_reducible refine w_c ?_
  | ((with_reducible refine w_var (d := ?_) ?_ ?_); rotate_left; rfl)
  | with_reducible refine w_bin ?_
  | with_reducible refine w_call ?_
  | with_reducible refine w_if ?_
  | with_reducible refine w_B ?_
  | with_reducible refine w_unB ?_
  | with_reducible refine w_ret ?_
  | with_reducible refine w_drop ?_
  | with_reducible refine w_skip ?_
  | with_reducible refine w_eq (dAdd_int _ _ _) ?_
  | with_reducible refine w_eq (dSub_int _ _ _) ?_
  | with_reducible refine w_eq (dEq_int _ _ _) ?_
  | with_reducible refine w_eq (dEq_str _ _ _) ?_
  | with_reducible refine w_eq (dNe_strs _ _ _) ?_
  | with_reducible refine w_eq (dEq_bls _ _ _) ?_
  | with_reducible refine w_eq (dNe_bls _ _ _) ?_
  | with_reducible refine w_eq (dLt_int _ _ _) ?_
  | with_reducible refine w_eq (dLe_int _ _ _) ?_
  | with_reducible refine w_eq (dGt_int _ _ _) ?_
  | with_reducible refine w_eq (dGe_int _ _ _) ?_
  | with_reducible refine w_eq (dNe_int _ _ _) ?_
  | ((with_reducible refine w_mod ?_ ?_); (first | assumption | decide | omega))
  | ((with_reducible refine w_fdiv ?_ ?_); (first | assumption | decide | omega))
  | ((with_reducible refine w_mulS ?_ ?_); (first | decide | omega))
  | ((with_reducible refine w_addS ?_ ?_); (first | assumption | decide | omega))
  | ((with_reducible refine w_lenS ?_ ?_); (first | assumption | decide | omega))
  | ((with_reducible refine w_slS ?_ ?_); (first | assumption | decide | omega))
  | with_reducible refine w_lenTm ?_
  | with_reducible refine w_eq (dLen_tup _ _) ?_
  | with_reducible refine w_eq (dSl_tup _ _ _ _) ?_
  | with_reducible refine w_eq (dMax_ev _ _ _) ?_
  | with_reducible refine w_eq (dMin_ev _ _ _) ?_
  | with_reducible refine w_eq (dAbs_ev _ _) ?_
  | with_reducible refine w_not ?_
  | with_reducible refine w_and ?_
  | with_reducible refine w_or ?_
  | with_reducible refine br_n ?_
  | with_reducible refine br_tt ?_
  | with_reducible refine br_ff ?_
  | ((with_reducible refine br_dt ?_ ?_); (first | assumption | omega | rfl))
  | ((with_reducible refine br_df ?_ ?_); (first | assumption | omega))
  | with_reducible refine w_tup ?_
  | ((with_reducible refine w_toTup ?_ ?_); exact (by simp))
  | with_reducible refine w_lst ?_
  | with_reducible refine w_lc ?_
  | with_reducible refine w_for ?_
  | with_reducible refine w_range1 ?_
  | with_reducible refine w_range2 ?_
  | ((with_reducible refine w_dR1 ?_ ?_); (first | decide | omega))
  | ((with_reducible refine w_dR2 ?_ ?_); (first | decide | omega))
  | with_reducible refine w_iter ?_
  | with_reducible refine w_eq (iter1_tup _ _) ?_
  | with_reducible refine w_eq (iter1_str _ _) ?_
  | with_reducible refine w_sl ?_
  | with_reducible refine w_no ?_
  | with_reducible refine w_some ?_
  | with_reducible refine w_unI ?_
  | with_reducible refine w_meth ?_
  | with_reducible refine w_isi ?_
  | with_reducible refine w_zip ?_
  | with_reducible refine w_ifE ?_
  | with_reducible refine w_andV ?_
  | with_reducible refine w_orV ?_
  | with_reducible refine w_notV ?_
  | with_reducible refine w_andK ?_
  | with_reducible refine w_orK ?_
  | with_reducible refine w_notK ?_
  | with_reducible refine w_revL ?_
  | with_reducible refine w_listRg1 ?_
  | with_reducible refine w_tindex ?_
  | with_reducible refine w_setIx ?_
  | with_reducible refine w_un ?_
  | with_reducible refine w_rev1 ?_
  | with_reducible refine w_rev2 ?_
  | with_reducible refine w_chain ?_
  | with_reducible refine w_chK ?_
  | with_reducible refine w_retN ?_
  | with_reducible refine w_brk ?_
  | with_reducible refine w_cont ?_
  | with_reducible refine w_asgT ?_
  | with_reducible refine w_eq (isi_str_str _ _) ?_
  | with_reducible refine w_eq (isi_int_int _ _) ?_
  | with_reducible refine w_eq (isi_tup_tup _ _) ?_
  | with_reducible refine w_eq (isi_bool_int _ _) ?_
  | with_reducible refine w_eq (isi_str_int _ _) ?_
  | ((with_reducible refine w_lenLm (α := ?_) (f := ?_) (l := ?_) ?_ ?_); rotate_left; rotate_left; rotate_left; walk_at "gl")
  | ((with_reducible refine w_lenL (l := ?_) ?_ ?_); rotate_left; walk_at "gl")
  | ((with_reducible refine w_iterL (l := ?_) ?_ ?_); rotate_left; walk_at "gl"; dsimp only)
  | ((with_reducible refine w_tupL (l := ?_) ?_ ?_); rotate_left; walk_at "gl")
  | ((with_reducible refine w_ixT (d := ?_) ?_ ?_); rotate_left; (first | with_reducible assumption | rfl))
  | ((with_reducible refine w_ixL (l := ?_) (d := ?_) ?_ ?_ ?_); rotate_left; rotate_left; walk_at "gl"; (first | with_reducible assumption | rfl))
  | ((with_reducible refine w_addT ?_ ?_); walk_at "bd")
  | ((with_reducible refine ⟨?_, ?_⟩); (with_reducible (show isListD (.ref _) _ = true)); walk_at "il")
  | with_reducible refine w_tryK ?_
  | with_reducible refine w_raise ?_
  | with_reducible refine w_raise0 ?_
  | with_reducible refine w_isX ?_
  | ((with_reducible refine w_isXK (k := ?_) ?_ ?_); rotate_left; (first | with_reducible exact lkA | (apply lkB; decide +kernel; exact lkA) | (apply lkB; decide +kernel; apply lkB; decide +kernel; exact lkA) | (apply lkB; decide +kernel; apply lkB; decide +kernel; apply lkB; decide +kernel; exact lkA)))
  | with_reducible refine w_xf ?_
  | ((with_reducible refine w_xfK ?_ ?_ ?_); (exact List.mem_cons_self); (decide))
  | with_reducible refine w_eq (isN_xo _) ?_
  | with_reducible refine w_eq (dNeg_int _ _) ?_)
local macro_rules | `(tactic| walk_at "go") => `(tactic| (repeat (walk_at "w")); try dsimp only [List.set])
local macro_rules | `(tactic| walk_at "fn") => `(tactic| ((refine w_fun ?_); simp only [startD, List.map_cons, List.map_nil, List.reduceReplicate, Nat.reduceSub, List.cons_append, List.nil_append]; walk_at "go"))
def btf (fs : List Str) (f : Str) (m : Int) : Bool := match fidx f fs with
  | some j => bt m j
  | none => false
def tru (w : Int) (fs : List Str) (f o : Str) (m : Int) : Bool := if w = 0 then btf fs f m && btf fs o m else if w = 1 then btf fs f m || btf fs o m else !btf fs f m
def isBad (fs : List Str) (w : Int) (new f o : Str) : Prop := f ∉ fs ∨ (w < 2 ∧ o ∉ fs) ∨ new ∈ fs
theorem maps_all {α : Type} {ys : List D} {l : List α} {g : α → D} (hl : ys.length = l.length) (h : ∀ (i : Nat) y, ys[i]? = some y → ∃ m, l[i]? = some m ∧ y = g m) : ys = l.map g := by
  refine List.ext_getElem? fun i => ?_
  rw [List.getElem?_map]
  cases e : ys[i]? with
  | some y =>
    obtain ⟨m, e1, rfl⟩ := h i y e
    rw [e1]; rfl
  | none =>
    have : l.length ≤ i := by rw [← hl]; exact List.getElem?_eq_none_iff.mp e
    rw [List.getElem?_eq_none_iff.mpr this]; rfl
section
variable {fs ns : List Str} {st : List Int} {sp : List (List Int)} {mk : List Int} {new f o : Str} {h : MH}
abbrev askOk (h : MH) (fs ns : List Str) (st : List Int) (sp : List (List Int)) (mk : List Int) (w : Int) (new f o : Str) : D → MH → Prop := fun d h' => h <+: h' ∧ ¬ isBad fs w new f o ∧ d = gmD (fs ++ [new]) ns st sp (mkN (2 ^ fs.length) mk (mk.map (tru w fs f o)))
abbrev askNo (h : MH) (fs : List Str) (w : Int) (new f o : Str) : XE := fun x l h' => h <+: h' ∧ isBad fs w new f o ∧ x = Str.ofString "NoForm" ∧ l = [(Str.ofString "form", .str (badOf fs w new f o))]
end
section
variable {Q : D → MH → Prop} {E : XE} {h : MH}
end
section
variable {fs ns : List Str} {st : List Int} {sp : List (List Int)} {mk : List Int} {new f o : Str} {h : MH}
theorem Nm.ne {x : Str} (h : Nm x) : x ≠ Str.ofString "" := by
  rintro rfl
  exact absurd h.1 (by decide)
end
end Mi

namespace Mi
open PySem L2
/-! sizes of states, plain -/
abbrev Tb := List (Option Nat)
def oD : Option Nat → D
  | none => .non
  | some z => .int (z : Int)
def nx (sp : List (List Int)) (p q : Nat) : Nat := ((sp.getD p []).getD q 0).toNat
def cnt : Tb → Nat
  | [] => 0
  | none :: t => cnt t
  | some _ :: t => cnt t + 1
def wt : Option Nat → Nat
  | none => 2305843009213693952
  | some z => z
def meas : Tb → Nat
  | [] => 0
  | o :: t => wt o + meas t
theorem cntLe : ∀ t : Tb, cnt t ≤ t.length
  | [] => Nat.le_refl _
  | none :: t => by have := cntLe t; simp only [cnt, List.length_cons]; omega
  | some _ :: t => by have := cntLe t; simp only [cnt, List.length_cons]; omega
theorem cntPos : ∀ {t : Tb} {s z : Nat}, t[s]? = some (some z) → 1 ≤ cnt t
  | none :: t, 0, z, h => by simp at h
  | some _ :: t, s, z, h => by simp only [cnt]; omega
  | none :: t, s + 1, z, h => by
    rw [List.getElem?_cons_succ] at h
    exact cntPos (t := t) h
theorem cntSet : ∀ {t : Tb} {s : Nat} {o : Option Nat} (z : Nat), t[s]? = some o → cnt t ≤ cnt (t.set s (some z)) ∧ (o = none → cnt (t.set s (some z)) = cnt t + 1)
  | none :: t, 0, o, z, h => by
    simp only [List.set_cons_zero, cnt]
    exact ⟨by omega, fun _ => by first | rfl | trivial⟩
  | some _ :: t, 0, o, z, h => by
    simp at h
    subst h
    simp only [List.set_cons_zero, cnt]
    exact ⟨by omega, fun e => by cases e⟩
  | none :: t, s + 1, o, z, h => by
    rw [List.getElem?_cons_succ] at h
    simp only [List.set_cons_succ, cnt]
    exact cntSet (t := t) z h
  | some _ :: t, s + 1, o, z, h => by
    rw [List.getElem?_cons_succ] at h
    simp only [List.set_cons_succ, cnt]
    have := cntSet (t := t) z h
    exact ⟨by omega, fun e => by have := this.2 e; omega⟩
theorem meas_set : ∀ {t : Tb} {s : Nat} {o : Option Nat} {z : Nat}, t[s]? = some o → z < wt o → meas (t.set s (some z)) < meas t
  | a :: t, 0, o, z, h, hz => by
    simp at h
    subst h
    simp only [List.set_cons_zero, meas]
    have : wt (some z) = z := rfl
    omega
  | a :: t, s + 1, o, z, h, hz => by
    rw [List.getElem?_cons_succ] at h
    have := meas_set (t := t) h hz
    simp only [List.set_cons_succ, meas]
    omega
theorem meas_le : ∀ {t : Tb}, (∀ o ∈ t, wt o ≤ 2305843009213693952) → meas t ≤ t.length * 2305843009213693952
  | [], _ => Nat.zero_le _
  | o :: t, h => by
    have h1 := h o List.mem_cons_self
    have h2 := meas_le (t := t) fun x hx => h x (List.mem_cons_of_mem _ hx)
    simp only [meas, List.length_cons]
    omega
structure SInv (st : List Int) (sp : List (List Int)) (t : Tb) : Prop where
  len : t.length = sp.length
  pos : ∀ s z : Nat, t[s]? = some (some z) → 1 ≤ z ∧ 2 * z ≤ 2 ^ cnt t
  sta : ∀ s : Nat, (s : Int) ∈ st → t[s]? = some (some 1)
  sup : ∀ s z : Nat, t[s]? = some (some z) → (z = 1 ∧ (s : Int) ∈ st) ∨ ∃ p q a b : Nat, t[p]? = some (some a) ∧ t[q]? = some (some b) ∧ nx sp p q = s ∧ a + b ≤ z
def okp (sp : List (List Int)) (t : Tb) (p q : Nat) : Prop := ∀ a b : Nat, t[p]? = some (some a) → t[q]? = some (some b) → ∃ c : Nat, t[nx sp p q]? = some (some c) ∧ c ≤ a + b
def closed (sp : List (List Int)) (t : Tb) : Prop := ∀ p q, okp sp t p q
theorem get_set {α : Type} {l : List α} {s : Nat} (x : α) (hs : s < l.length) (r : Nat) : (l.set s x)[r]? = if s = r then some x else l[r]? := by
  rw [List.getElem?_set]
  split
  · rename_i e; subst e; simp [hs]
  · rfl
theorem SInv.upd {st : List Int} {sp : List (List Int)} {t : Tb} {p q a b s : Nat} {o : Option Nat} (i : SInv st sp t) (hp : t[p]? = some (some a)) (hq : t[q]? = some (some b)) (es : nx sp p q = s) (eo : t[s]? = some o) (c : o = none ∨ ∃ z, o = some z ∧ a + b < z) : SInv st sp (t.set s (some (a + b))) := by
  have hs := (List.getElem?_eq_some_iff.mp eo).1
  have g := fun r => get_set (l := t) (some (a + b)) hs r
  have ha := i.pos p a hp
  have hb := i.pos q b hq
  have hc := cntSet (a + b) eo
  have hpow := Nat.pow_le_pow_right (n := 2) (by decide) hc.1
  have nep : s ≠ p := by
    rintro rfl
    rw [eo] at hp
    rcases c with c | ⟨z, c, cz⟩
    · rw [c] at hp; simp at hp
    · rw [c] at hp; simp at hp; omega
  have neq : s ≠ q := by
    rintro rfl
    rw [eo] at hq
    rcases c with c | ⟨z, c, cz⟩
    · rw [c] at hq; simp at hq
    · rw [c] at hq; simp at hq; omega
  have low : ∀ p' a' : Nat, t[p']? = some (some a') → ∃ a'' : Nat, (t.set s (some (a + b)))[p']? = some (some a'') ∧ a'' ≤ a' := by
    intro p' a' e
    rw [g]
    split
    · rename_i z
      subst z
      rw [eo] at e
      refine ⟨a + b, rfl, ?_⟩
      rcases c with c | ⟨z, c, cz⟩
      · rw [c] at e; simp at e
      · rw [c] at e; simp at e; omega
    · exact ⟨a', e, Nat.le_refl _⟩
  refine ⟨by rw [List.length_set]; exact i.len, fun r z hr => ?_, fun r hr => ?_, fun r z hr => ?_⟩
  · rw [g] at hr
    split at hr
    · simp at hr
      subst hr
      refine ⟨by omega, ?_⟩
      rcases c with c | ⟨z, c, cz⟩
      · rw [hc.2 c, Nat.pow_succ]; omega
      · rw [c] at eo
        have := i.pos s z eo
        omega
    · have := i.pos r z hr
      exact ⟨this.1, by omega⟩
  · have h1 := i.sta r hr
    rw [g]
    split
    · rename_i z
      subst z
      rw [eo] at h1
      rcases c with c | ⟨z, c, cz⟩
      · rw [c] at h1; simp at h1
      · rw [c] at h1; simp at h1; omega
    · exact h1
  · by_cases z2 : s = r
    · subst z2
      rw [g, if_pos rfl] at hr
      simp at hr
      subst hr
      refine .inr ⟨p, q, a, b, ?_, ?_, es, Nat.le_refl _⟩
      · rw [g, if_neg nep]; exact hp
      · rw [g, if_neg neq]; exact hq
    · rw [g, if_neg z2] at hr
      rcases i.sup r z hr with h1 | ⟨p', q', a', b', e1, e2, e3, e4⟩
      · exact .inl h1
      · obtain ⟨a'', f1, f2⟩ := low p' a' e1
        obtain ⟨b'', f3, f4⟩ := low q' b' e2
        exact .inr ⟨p', q', a'', b'', f1, f3, e3, by omega⟩
theorem SInv.lt {st : List Int} {sp : List (List Int)} {t : Tb} (i : SInv st sp t) (hn : sp.length ≤ 60) {s z : Nat} (e : t[s]? = some (some z)) : z ≤ 576460752303423488 := by
  have h1 := (i.pos s z e).2
  have h2 := cntLe t
  have h3 := i.len
  have h4 := Nat.pow_le_pow_right (n := 2) (by decide) (show cnt t ≤ 60 by omega)
  have h5 : (2 : Nat) ^ 60 = 1152921504606846976 := by decide
  omega
theorem SInv.meas {st : List Int} {sp : List (List Int)} {t : Tb} (i : SInv st sp t) (hn : sp.length ≤ 60) : Mi.meas t < 1000000000000000000000000 := by
  have h1 := meas_le (t := t) (fun o ho => by
    cases o with
    | none => exact Nat.le_refl _
    | some z =>
      obtain ⟨s, e⟩ := List.mem_iff_getElem?.mp ho
      have := i.lt hn e
      show z ≤ _
      omega)
  have h2 := i.len
  omega
theorem oD_set (t : Tb) (s z : Nat) : (t.map oD).set s (.int (z : Int)) = (t.set s (some z)).map oD := by rw [List.map_set]; rfl
theorem tb_at {t : Tb} {s : Nat} {o : Option Nat} (e : t[s]? = some o) : atI (t.map oD) (s : Int) = some (oD o) := atI_at (by rw [List.getElem?_map, e]; rfl)
/-- the table of steps -/
structure Rows (sp : List (List Int)) : Prop where
  row : ∀ r ∈ sp, r.length = sp.length ∧ ∀ z ∈ r, 0 ≤ z ∧ z < (sp.length : Int)
theorem Rows.at {sp : List (List Int)} (g : Rows sp) {p q : Nat} (hp : p < sp.length) (hq : q < sp.length) : ∃ r : List Int, atI (sp.map fun r => D.tup (r.map .int)) (p : Int) = some (.tup (r.map .int)) ∧ atI (r.map D.int) (q : Int) = some (.int (nx sp p q : Nat)) ∧ nx sp p q < sp.length := by
  have e1 := getE (l := sp) (i := p) hp
  obtain ⟨h1, h2⟩ := g.row _ (List.mem_of_getElem? e1)
  have e2 := getE (l := sp[p]) (i := q) (by omega)
  have h3 := h2 _ (List.mem_of_getElem? e2)
  have en : ((nx sp p q : Nat) : Int) = sp[p][q] := by
    unfold nx
    simp only [List.getD_eq_getElem?_getD, e1, e2, Option.getD_some]
    omega
  refine ⟨sp[p], atI_at (by rw [List.getElem?_map, e1]; rfl), ?_, by omega⟩
  rw [en]
  exact atI_at (by rw [List.getElem?_map, e2]; rfl)
theorem notN_non (h : MH) : dNotN .non .non h = .ok (.bl false) h := by rw [dNotN_ev]; rfl
theorem notN_int (i : Int) (h : MH) : dNotN (.int i) .non h = .ok (.bl true) h := by rw [dNotN_ev]; rfl
theorem isN_non (h : MH) : dIsN .non .non h = .ok (.bl true) h := by rw [dIsN_ev]; rfl
theorem isN_int (i : Int) (h : MH) : dIsN (.int i) .non h = .ok (.bl false) h := by rw [dIsN_ev]; rfl
end Mi

namespace Mi
open PySem L2
local macro_rules | `(tactic| walk_at "gl") => `(tactic| first
  | assumption
  | (refine Own.atL (h0 := ?_) (L := ?_) ?_ 0 ?_; rotate_left; rotate_left; assumption; rfl)
  | (refine Own.atL (h0 := ?_) (L := ?_) ?_ 1 ?_; rotate_left; rotate_left; assumption; rfl)
  | (refine Own.atL (h0 := ?_) (L := ?_) ?_ 2 ?_; rotate_left; rotate_left; assumption; rfl)
  | (refine Own.atL (h0 := ?_) (L := ?_) ?_ 3 ?_; rotate_left; rotate_left; assumption; rfl)
  | (refine Own.atL (h0 := ?_) (L := ?_) ?_ 4 ?_; rotate_left; rotate_left; assumption; rfl)
  | (refine Own.atL (h0 := ?_) (L := ?_) ?_ 5 ?_; rotate_left; rotate_left; assumption; rfl)
  | (refine Own.atL (h0 := ?_) (L := ?_) ?_ 6 ?_; rotate_left; rotate_left; assumption; rfl)
  | (refine Own.atL (h0 := ?_) (L := ?_) ?_ 7 ?_; rotate_left; rotate_left; assumption; rfl)
  | (refine Own.atL (h0 := ?_) (L := ?_) ?_ 8 ?_; rotate_left; rotate_left; assumption; rfl)
  | (refine Own.atL (h0 := ?_) (L := ?_) ?_ 9 ?_; rotate_left; rotate_left; assumption; rfl)
  | (refine Own.getL (h0 := ?_) (L := ?_) ?_ ?_; rotate_left; rotate_left; assumption; assumption))
local macro_rules | `(tactic| walk_at "il") => `(tactic| first
  | (refine Own.isL (h0 := ?_) (L := ?_) (l := ?_) ?_ 0 ?_; rotate_left; rotate_left; rotate_left; assumption; rfl)
  | (refine Own.isL (h0 := ?_) (L := ?_) (l := ?_) ?_ 1 ?_; rotate_left; rotate_left; rotate_left; assumption; rfl)
  | (refine Own.isL (h0 := ?_) (L := ?_) (l := ?_) ?_ 2 ?_; rotate_left; rotate_left; rotate_left; assumption; rfl)
  | (refine Own.isL (h0 := ?_) (L := ?_) (l := ?_) ?_ 3 ?_; rotate_left; rotate_left; rotate_left; assumption; rfl)
  | (refine Own.isL (h0 := ?_) (L := ?_) (l := ?_) ?_ 4 ?_; rotate_left; rotate_left; rotate_left; assumption; rfl)
  | (refine Own.isL (h0 := ?_) (L := ?_) (l := ?_) ?_ 5 ?_; rotate_left; rotate_left; rotate_left; assumption; rfl)
  | (refine Own.isL (h0 := ?_) (L := ?_) (l := ?_) ?_ 6 ?_; rotate_left; rotate_left; rotate_left; assumption; rfl)
  | (refine Own.isL (h0 := ?_) (L := ?_) (l := ?_) ?_ 7 ?_; rotate_left; rotate_left; rotate_left; assumption; rfl)
  | (refine Own.isL (h0 := ?_) (L := ?_) (l := ?_) ?_ 8 ?_; rotate_left; rotate_left; rotate_left; assumption; rfl)
  | (refine Own.isL (h0 := ?_) (L := ?_) (l := ?_) ?_ 9 ?_; rotate_left; rotate_left; rotate_left; assumption; rfl))
local macro_rules | `(tactic| walk_at "bd") => `(tactic| first | assumption | omega | (simp; done) | (simp; omega) | (simp [*]; done) | (simp [*]; omega))
local macro_rules | `(tactic| walk_at "w") => `(tactic| first
  | with_reducible refine w_seq ?_
  | with_reducible refine w_asg ?_
  | with_reducible refine w_cons ?_
  | with_reducible refine w_nil ?_
  | with_reducible refine w_c ?_
  | ((with_reducible refine w_var (d := ?_) ?_ ?_); rotate_left; rfl)
  | with_reducible refine w_bin ?_
  | with_reducible refine w_call ?_
  | with_reducible refine w_if ?_
  | with_reducible refine w_B ?_
  | with_reducible refine w_unB ?_
  | with_reducible refine w_ret ?_
  | with_reducible refine w_drop ?_
  | with_reducible refine w_skip ?_
  | with_reducible refine w_eq (dAdd_int _ _ _) ?_
  | with_reducible refine w_eq (dSub_int _ _ _) ?_
  | with_reducible refine w_eq (dEq_int _ _ _) ?_
  | with_reducible refine w_eq (dEq_str _ _ _) ?_
  | with_reducible refine w_eq (dNe_strs _ _ _) ?_
  | with_reducible refine w_eq (dEq_bls _ _ _) ?_
  | with_reducible refine w_eq (dNe_bls _ _ _) ?_
  | with_reducible refine w_eq (dLt_int _ _ _) ?_
  | with_reducible refine w_eq (dLe_int _ _ _) ?_
  | with_reducible refine w_eq (dGt_int _ _ _) ?_
  | with_reducible refine w_eq (dGe_int _ _ _) ?_
  | with_reducible refine w_eq (dNe_int _ _ _) ?_
  | ((with_reducible refine w_mod ?_ ?_); (first | assumption | decide | omega))
  | ((with_reducible refine w_fdiv ?_ ?_); (first | assumption | decide | omega))
  | ((with_reducible refine w_mulS ?_ ?_); (first | decide | omega))
  | ((with_reducible refine w_addS ?_ ?_); (first | assumption | decide | omega))
  | ((with_reducible refine w_lenS ?_ ?_); (first | assumption | decide | omega))
  | ((with_reducible refine w_slS ?_ ?_); (first | assumption | decide | omega))
  | with_reducible refine w_lenTm ?_
  | with_reducible refine w_eq (dLen_tup _ _) ?_
  | with_reducible refine w_eq (dSl_tup _ _ _ _) ?_
  | with_reducible refine w_eq (dMax_ev _ _ _) ?_
  | with_reducible refine w_eq (dMin_ev _ _ _) ?_
  | with_reducible refine w_eq (dAbs_ev _ _) ?_
  | with_reducible refine w_not ?_
  | with_reducible refine w_and ?_
  | with_reducible refine w_or ?_
  | with_reducible refine br_n ?_
  | with_reducible refine br_tt ?_
  | with_reducible refine br_ff ?_
  | ((with_reducible refine br_dt ?_ ?_); (first | assumption | omega | rfl))
  | ((with_reducible refine br_df ?_ ?_); (first | assumption | omega))
  | with_reducible refine w_tup ?_
  | ((with_reducible refine w_toTup ?_ ?_); exact (by simp))
  | with_reducible refine w_lst ?_
  | with_reducible refine w_lc ?_
  | with_reducible refine w_for ?_
  | with_reducible refine w_range1 ?_
  | with_reducible refine w_range2 ?_
  | ((with_reducible refine w_dR1 ?_ ?_); (first | decide | omega))
  | ((with_reducible refine w_dR2 ?_ ?_); (first | decide | omega))
  | with_reducible refine w_iter ?_
  | with_reducible refine w_eq (iter1_tup _ _) ?_
  | with_reducible refine w_eq (iter1_str _ _) ?_
  | with_reducible refine w_sl ?_
  | with_reducible refine w_no ?_
  | with_reducible refine w_some ?_
  | with_reducible refine w_unI ?_
  | with_reducible refine w_meth ?_
  | with_reducible refine w_isi ?_
  | with_reducible refine w_zip ?_
  | with_reducible refine w_ifE ?_
  | with_reducible refine w_andV ?_
  | with_reducible refine w_orV ?_
  | with_reducible refine w_notV ?_
  | with_reducible refine w_andK ?_
  | with_reducible refine w_orK ?_
  | with_reducible refine w_notK ?_
  | with_reducible refine w_revL ?_
  | with_reducible refine w_listRg1 ?_
  | with_reducible refine w_tindex ?_
  | with_reducible refine w_setIx ?_
  | with_reducible refine w_un ?_
  | with_reducible refine w_rev1 ?_
  | with_reducible refine w_rev2 ?_
  | with_reducible refine w_chain ?_
  | with_reducible refine w_chK ?_
  | with_reducible refine w_retN ?_
  | with_reducible refine w_brk ?_
  | with_reducible refine w_cont ?_
  | with_reducible refine w_asgT ?_
  | with_reducible refine w_eq (isi_str_str _ _) ?_
  | with_reducible refine w_eq (isi_int_int _ _) ?_
  | with_reducible refine w_eq (isi_tup_tup _ _) ?_
  | with_reducible refine w_eq (isi_bool_int _ _) ?_
  | with_reducible refine w_eq (isi_str_int _ _) ?_
  | ((with_reducible refine w_lenLm (α := ?_) (f := ?_) (l := ?_) ?_ ?_); rotate_left; rotate_left; rotate_left; walk_at "gl")
  | ((with_reducible refine w_lenL (l := ?_) ?_ ?_); rotate_left; walk_at "gl")
  | ((with_reducible refine w_iterL (l := ?_) ?_ ?_); rotate_left; walk_at "gl"; dsimp only)
  | ((with_reducible refine w_tupL (l := ?_) ?_ ?_); rotate_left; walk_at "gl")
  | ((with_reducible refine w_ixT (d := ?_) ?_ ?_); rotate_left; (first | with_reducible assumption | rfl))
  | ((with_reducible refine w_ixL (l := ?_) (d := ?_) ?_ ?_ ?_); rotate_left; rotate_left; walk_at "gl"; (first | with_reducible assumption | rfl))
  | ((with_reducible refine w_addT ?_ ?_); walk_at "bd")
  | ((with_reducible refine ⟨?_, ?_⟩); (with_reducible (show isListD (.ref _) _ = true)); walk_at "il")
  | with_reducible refine w_tryK ?_
  | with_reducible refine w_raise ?_
  | with_reducible refine w_raise0 ?_
  | with_reducible refine w_isX ?_
  | ((with_reducible refine w_isXK (k := ?_) ?_ ?_); rotate_left; (first | with_reducible exact lkA | (apply lkB; decide +kernel; exact lkA) | (apply lkB; decide +kernel; apply lkB; decide +kernel; exact lkA) | (apply lkB; decide +kernel; apply lkB; decide +kernel; apply lkB; decide +kernel; exact lkA)))
  | with_reducible refine w_xf ?_
  | ((with_reducible refine w_xfK ?_ ?_ ?_); (exact List.mem_cons_self); (decide))
  | with_reducible refine w_eq (isN_xo _) ?_
  | with_reducible refine w_eq (dNeg_int _ _) ?_)
local macro_rules | `(tactic| walk_at "go") => `(tactic| (repeat (walk_at "w")); try dsimp only [List.set])
local macro_rules | `(tactic| walk_at "fn") => `(tactic| ((refine w_fun ?_); simp only [startD, List.map_cons, List.map_nil, List.reduceReplicate, Nat.reduceSub, List.cons_append, List.nil_append]; walk_at "go"))
local macro_rules | `(tactic| walk_at "w") => `(tactic| first
  | with_reducible refine w_eq (notN_non _) ?_
  | with_reducible refine w_eq (notN_int _ _) ?_
  | with_reducible refine w_eq (isN_non _) ?_
  | with_reducible refine w_eq (isN_int _ _) ?_)
section
variable {fs ns : List Str} {st : List Int} {sp : List (List Int)} {mk : List Int}
theorem cc_lowered {h0 h : MH} {j : Nat} {t : Tb} (gr : Rows sp) (hn : sp.length ≤ 60) (ow : Own h0 h [(j, t.map oD)]) (iv : SInv st sp t) :
    Sat (m_lowered_0b90e [gmD fs ns st sp mk, .ref j] h) (fun d h' => ∃ (t' : Tb) (b : Bool), d = .bl b ∧ Own h0 h' [(j, t'.map oD)] ∧ SInv st sp t' ∧ (b = false → t' = t ∧ closed sp t) ∧ (b = true → meas t' < meas t)) noX := by
  have hlen := iv.len
  unfold gmD
  walk_at "fn"
  refine w_loop0 (fun k ρ h' => ∃ (t' : Tb) (b : Bool) (o3 o4 o5 o6 : Option D), ρ = [some (gmD fs ns st sp mk), some (.ref j), some (.bl b), o3, o4, o5, o6] ∧ Own h0 h' [(j, t'.map oD)] ∧ SInv st sp t' ∧ (b = false → t' = t ∧ ∀ p, p < k → ∀ q, okp sp t p q) ∧ (b = true → meas t' < meas t)) ⟨t, false, none, none, none, none, rfl, ow, iv, fun _ => ⟨rfl, fun p hp => by omega⟩, fun z => by cases z⟩ (fun _ _ _ _ => rfl) ?_ ?_
  · rintro p d ρ h1 hd ⟨t1, b1, o3, o4, o5, o6, rfl, ow1, iv1, hf1, ht1⟩
    obtain ⟨hp, rfl⟩ := rangeD_get hd
    rw [Int.toNat_natCast] at hp
    refine ⟨_, rfl, ?_⟩
    dsimp only [List.set]
    rw [Int.zero_add]
    have hlen1 := iv1.len
    walk_at "go"
    refine w_loop0 (fun k ρ h' => ∃ (t' : Tb) (b : Bool) (o4 o5 o6 : Option D), ρ = [some (gmD fs ns st sp mk), some (.ref j), some (.bl b), some (.int (p : Int)), o4, o5, o6] ∧ Own h0 h' [(j, t'.map oD)] ∧ SInv st sp t' ∧ (b = false → t' = t ∧ (∀ p', p' < p → ∀ q, okp sp t p' q) ∧ ∀ q, q < k → okp sp t p q) ∧ (b = true → meas t' < meas t)) ⟨t1, b1, o4, o5, o6, rfl, ow1, iv1, fun z => ⟨(hf1 z).1, (hf1 z).2, fun q hq => by omega⟩, ht1⟩ (fun _ _ _ _ => rfl) ?_ ?_
    · rintro q d ρ h2 hd ⟨t2, b2, o4, o5, o6, rfl, ow2, iv2, hf2, ht2⟩
      obtain ⟨hq, rfl⟩ := rangeD_get hd
      rw [Int.toNat_natCast] at hq
      refine ⟨_, rfl, ?_⟩
      have hlen2 := iv2.len
      unfold gmD
      dsimp only [List.set]
      rw [Int.zero_add]
      have e1 := getE (l := t2) (i := p) (by omega)
      have e2 := getE (l := t2) (i := q) (by omega)
      generalize t2[p] = o1 at *
      generalize t2[q] = o2 at *
      have a1 := tb_at e1
      have a2 := tb_at e2
      have keep : ∀ (o4 o5 o6 : Option D), okp sp t2 p q → ∃ (t' : Tb) (b : Bool) (p4 p5 p6 : Option D), [some (gmD fs ns st sp mk), some (D.ref j), some (.bl b2), some (.int (p : Int)), o4, o5, o6] = [some (gmD fs ns st sp mk), some (.ref j), some (.bl b), some (.int (p : Int)), p4, p5, p6] ∧ Own h0 h2 [(j, t'.map oD)] ∧ SInv st sp t' ∧ (b = false → t' = t ∧ (∀ p', p' < p → ∀ q, okp sp t p' q) ∧ ∀ r, r < q + 1 → okp sp t p r) ∧ (b = true → meas t' < meas t) := fun o4 o5 o6 hk => ⟨t2, b2, o4, o5, o6, rfl, ow2, iv2, fun z => by
        obtain ⟨h1, h2, h3⟩ := hf2 z
        refine ⟨h1, h2, fun r hr => ?_⟩
        by_cases e : r = q
        · subst e; rw [← h1]; exact hk
        · exact h3 r (by omega), ht2⟩
      cases o1 with
      | none =>
        rw [oD] at a1
        walk_at "go"
        exact keep _ _ _ fun a b h1 => by rw [e1] at h1; cases h1
      | some a =>
        rw [oD] at a1
        cases o2 with
        | none =>
          rw [oD] at a2
          walk_at "go"
          exact keep _ _ _ fun a b _ h1 => by rw [e2] at h1; cases h1
        | some b =>
          rw [oD] at a2
          obtain ⟨r, r1, r2, r3⟩ := gr.at (p := p) (q := q) (by omega) (by omega)
          have e3 := getE (l := t2) (i := nx sp p q) (by omega)
          generalize t2[nx sp p q] = o3 at *
          have a3 := tb_at e3
          have la := iv2.lt hn e1
          have lb := iv2.lt hn e2
          have done : ∀ (h9 : MH), (o3 = none ∨ ∃ z, o3 = some z ∧ a + b < z) → Own h0 h9 [(j, (t2.map oD).set (nx sp p q) (.int ((a : Int) + (b : Int))))] → ∀ (o4 o5 o6 : Option D), ∃ (t' : Tb) (b : Bool) (p4 p5 p6 : Option D), [some (gmD fs ns st sp mk), some (D.ref j), some (.bl true), some (.int (p : Int)), o4, o5, o6] = [some (gmD fs ns st sp mk), some (.ref j), some (.bl b), some (.int (p : Int)), p4, p5, p6] ∧ Own h0 h9 [(j, t'.map oD)] ∧ SInv st sp t' ∧ (b = false → t' = t ∧ (∀ p', p' < p → ∀ q, okp sp t p' q) ∧ ∀ r, r < q + 1 → okp sp t p r) ∧ (b = true → meas t' < meas t) := by
            intro h9 hc o9 o4 o5 o6
            rw [← Int.natCast_add, oD_set] at o9
            refine ⟨_, true, o4, o5, o6, rfl, o9, iv2.upd e1 e2 rfl e3 hc, fun z => (by cases z), fun _ => ?_⟩
            have hlt : meas (t2.set (nx sp p q) (some (a + b))) < meas t2 := meas_set e3 (by
              rcases hc with rfl | ⟨z, rfl, hz⟩
              · show a + b < 2305843009213693952
                omega
              · exact hz)
            cases b2 with
            | false => rw [(hf2 rfl).1] at hlt; rw [(hf2 rfl).1]; exact hlt
            | true => exact Nat.lt_trans hlt (ht2 rfl)
          cases o3 with
          | none =>
            rw [oD] at a3
            walk_at "go"
            refine o_set ow2 0 rfl (ixN_nat (by rw [List.length_map]; omega)) fun h9 o9 => ?_
            walk_at "go"
            exact done h9 (.inl rfl) o9 _ _ _
          | some c =>
            rw [oD] at a3
            walk_at "go"
            refine br_d (fun c1 => ?_) (fun c1 => ?_)
            · walk_at "go"
              refine o_set ow2 0 rfl (ixN_nat (by rw [List.length_map]; omega)) fun h9 o9 => ?_
              walk_at "go"
              exact done h9 (.inr ⟨c, rfl, by omega⟩) o9 _ _ _
            · walk_at "go"
              refine keep _ _ _ fun a' b' h1 h2 => ?_
              rw [e1] at h1
              rw [e2] at h2
              simp at h1 h2
              exact ⟨c, e3, by omega⟩
    · rintro ρ h2 ⟨t2, b2, o4, o5, o6, rfl, ow2, iv2, hf2, ht2⟩
      rw [rangeD_length, Int.toNat_natCast] at hf2
      refine ⟨t2, b2, _, o4, o5, o6, rfl, ow2, iv2, fun z => ?_, ht2⟩
      obtain ⟨h1, h2, h3⟩ := hf2 z
      refine ⟨h1, fun p' hp' q => ?_⟩
      by_cases e : p' = p
      · subst e
        intro a b ea eb
        have hq := (List.getElem?_eq_some_iff.mp eb).1
        exact h3 q (by omega) a b ea eb
      · exact h2 p' (by omega) q
  · rintro ρ h2 ⟨t2, b2, o3, o4, o5, o6, rfl, ow2, iv2, hf2, ht2⟩
    rw [rangeD_length, Int.toNat_natCast] at hf2
    walk_at "go"
    refine ⟨t2, b2, rfl, ow2, iv2, fun z => ?_, ht2⟩
    obtain ⟨h1, h2⟩ := hf2 z
    refine ⟨h1, fun p q a b ea eb => ?_⟩
    have hq := (List.getElem?_eq_some_iff.mp ea).1
    exact h2 p (by omega) q a b ea eb
theorem cc_sizes45 {h : MH} (gr : Rows sp) (hn : sp.length ≤ 60) (hst : ∀ z ∈ st, 0 ≤ z ∧ z < (sp.length : Int)) (hmk : mk.length = sp.length) :
    Sat (m_sizes_9dfee [gmD fs ns st sp mk] h) (fun d h' => h <+: h' ∧ ∃ t : Tb, d = .tup (t.map oD) ∧ SInv st sp t ∧ closed sp t) noX := by
  unfold gmD
  walk_at "fn"
  refine o_comp (fun _ y => y = .non) (Own.nil h) (by simp; omega) (fun _ _ => rfl) ?_ ?_
  · intro k d h3 hd hp
    rw [List.getElem?_map, Option.map_eq_some_iff] at hd
    obtain ⟨m, em, rfl⟩ := hd
    refine ⟨_, rfl, ?_⟩
    dsimp only [wipeD, List.set]
    walk_at "go"
    exact ⟨rfl, rfl⟩
  intro ys hy hys jF h1 o1
  rw [List.length_map, hmk] at hy
  have ey : ys = (List.replicate sp.length (none : Option Nat)).map oD := maps_all (g := oD) (by rw [List.length_replicate]; exact hy) fun i y e => ⟨none, by
    have := (List.getElem?_eq_some_iff.mp e).1
    rw [List.getElem?_replicate, if_pos (by omega)], hys i y e⟩
  subst ey
  walk_at "go"
  refine w_loop0 (fun k ρ h' => ∃ (t : Tb) (o2 : Option D), ρ = [some (gmD fs ns st sp mk), some (.ref jF), o2, none] ∧ Own h h' [(jF, t.map oD)] ∧ t.length = sp.length ∧ (∀ (s : Nat) z, t[s]? = some (some z) → z = 1 ∧ (s : Int) ∈ st) ∧ ∀ s : Nat, (s : Int) ∈ st.take k → t[s]? = some (some 1)) ⟨_, none, rfl, o1, by simp, fun s z hz => by
    rw [List.getElem?_replicate] at hz
    split at hz <;> simp at hz, fun s hs => by simp at hs⟩ (fun _ _ _ _ => rfl) ?_ ?_
  · rintro k d ρ h2 hd ⟨t, o2, rfl, ow, hl, h3, h4⟩
    rw [List.getElem?_map, Option.map_eq_some_iff] at hd
    obtain ⟨z, ez, rfl⟩ := hd
    have hz := hst z (List.mem_of_getElem? ez)
    obtain ⟨s, rfl⟩ : ∃ s : Nat, z = (s : Int) := ⟨z.toNat, by omega⟩
    refine ⟨_, rfl, ?_⟩
    dsimp only [List.set]
    walk_at "go"
    refine o_set ow 0 rfl (ixN_nat (by rw [List.length_map]; omega)) fun h9 o9 => ?_
    have e1 : (t.map oD).set s (.int 1) = (t.set s (some 1)).map oD := oD_set t s 1
    rw [List.set_cons_zero, e1] at o9
    refine ⟨_, _, rfl, o9, by rw [List.length_set]; exact hl, fun r z hr => ?_, fun r hr => ?_⟩
    · rw [get_set _ (by omega)] at hr
      split at hr
      · rename_i e; subst e; simp at hr
        exact ⟨hr.symm, List.mem_of_getElem? ez⟩
      · exact h3 r z hr
    · rw [get_set _ (by omega)]
      split
      · rfl
      · rename_i ne
        rw [take_snoc ez] at hr
        rcases List.mem_append.mp hr with q | q
        · exact h4 r q
        · rw [List.mem_singleton] at q; omega
  rintro ρ h2 ⟨t, o2, rfl, ow, hl, h3, h4⟩
  rw [List.length_map, List.take_length] at h4
  have iv : SInv st sp t := ⟨hl, fun s z hz => by
    obtain ⟨rfl, _⟩ := h3 s z hz
    have h5 := Nat.pow_le_pow_right (n := 2) (by decide) (cntPos hz)
    exact ⟨Nat.le_refl _, by omega⟩, h4, fun s z hz => .inl (h3 s z hz)⟩
  clear h3 h4 hl
  refine w_seq ?_
  refine w_while (fun m ρ h' => ∃ (t : Tb), ρ = [some (gmD fs ns st sp mk), some (.ref jF), o2, none] ∧ Own h h' [(jF, t.map oD)] ∧ SInv st sp t ∧ meas t = m) (meas t) (iv.meas hn) ⟨t, rfl, ow, iv, rfl⟩ ?_
  clear iv ow
  rintro m ρ h3 ⟨t, rfl, ow, iv, rfl⟩
  walk_at "go"
  refine (cc_lowered gr hn ow iv).mono ?_
  rintro d h4 ⟨t2, b, rfl, ow2, iv2, hf, ht⟩
  walk_at "go"
  cases b with
  | true =>
    walk_at "go"
    exact ⟨_, ht rfl, t2, rfl, ow2, iv2, rfl⟩
  | false =>
    walk_at "go"
    obtain ⟨rfl, hc⟩ := hf rfl
    exact ⟨ow2.pre, t2, rfl, iv2, hc⟩
end
end Mi

namespace Mi
open PySem L2
local macro_rules | `(tactic| walk_at "gl") => `(tactic| first
  | assumption
  | (refine Own.atL (h0 := ?_) (L := ?_) ?_ 0 ?_; rotate_left; rotate_left; assumption; rfl)
  | (refine Own.atL (h0 := ?_) (L := ?_) ?_ 1 ?_; rotate_left; rotate_left; assumption; rfl)
  | (refine Own.atL (h0 := ?_) (L := ?_) ?_ 2 ?_; rotate_left; rotate_left; assumption; rfl)
  | (refine Own.atL (h0 := ?_) (L := ?_) ?_ 3 ?_; rotate_left; rotate_left; assumption; rfl)
  | (refine Own.atL (h0 := ?_) (L := ?_) ?_ 4 ?_; rotate_left; rotate_left; assumption; rfl)
  | (refine Own.atL (h0 := ?_) (L := ?_) ?_ 5 ?_; rotate_left; rotate_left; assumption; rfl)
  | (refine Own.atL (h0 := ?_) (L := ?_) ?_ 6 ?_; rotate_left; rotate_left; assumption; rfl)
  | (refine Own.atL (h0 := ?_) (L := ?_) ?_ 7 ?_; rotate_left; rotate_left; assumption; rfl)
  | (refine Own.atL (h0 := ?_) (L := ?_) ?_ 8 ?_; rotate_left; rotate_left; assumption; rfl)
  | (refine Own.atL (h0 := ?_) (L := ?_) ?_ 9 ?_; rotate_left; rotate_left; assumption; rfl)
  | (refine Own.getL (h0 := ?_) (L := ?_) ?_ ?_; rotate_left; rotate_left; assumption; assumption))
local macro_rules | `(tactic| walk_at "il") => `(tactic| first
  | (refine Own.isL (h0 := ?_) (L := ?_) (l := ?_) ?_ 0 ?_; rotate_left; rotate_left; rotate_left; assumption; rfl)
  | (refine Own.isL (h0 := ?_) (L := ?_) (l := ?_) ?_ 1 ?_; rotate_left; rotate_left; rotate_left; assumption; rfl)
  | (refine Own.isL (h0 := ?_) (L := ?_) (l := ?_) ?_ 2 ?_; rotate_left; rotate_left; rotate_left; assumption; rfl)
  | (refine Own.isL (h0 := ?_) (L := ?_) (l := ?_) ?_ 3 ?_; rotate_left; rotate_left; rotate_left; assumption; rfl)
  | (refine Own.isL (h0 := ?_) (L := ?_) (l := ?_) ?_ 4 ?_; rotate_left; rotate_left; rotate_left; assumption; rfl)
  | (refine Own.isL (h0 := ?_) (L := ?_) (l := ?_) ?_ 5 ?_; rotate_left; rotate_left; rotate_left; assumption; rfl)
  | (refine Own.isL (h0 := ?_) (L := ?_) (l := ?_) ?_ 6 ?_; rotate_left; rotate_left; rotate_left; assumption; rfl)
  | (refine Own.isL (h0 := ?_) (L := ?_) (l := ?_) ?_ 7 ?_; rotate_left; rotate_left; rotate_left; assumption; rfl)
  | (refine Own.isL (h0 := ?_) (L := ?_) (l := ?_) ?_ 8 ?_; rotate_left; rotate_left; rotate_left; assumption; rfl)
  | (refine Own.isL (h0 := ?_) (L := ?_) (l := ?_) ?_ 9 ?_; rotate_left; rotate_left; rotate_left; assumption; rfl))
local macro_rules | `(tactic| walk_at "bd") => `(tactic| first | assumption | omega | (simp; done) | (simp; omega) | (simp [*]; done) | (simp [*]; omega))
local macro_rules | `(tactic| walk_at "w") => `(tactic| first
  | with_reducible refine w_seq ?_
  | with_reducible refine w_asg ?_
  | with_reducible refine w_cons ?_
  | with_reducible refine w_nil ?_
  | with_reducible refine w_c ?_
  | ((with_reducible refine w_var (d := ?_) ?_ ?_); rotate_left; rfl)
  | with_reducible refine w_bin ?_
  | with_reducible refine w_call ?_
  | with_reducible refine w_if ?_
  | with_reducible refine w_B ?_
  | with_reducible refine w_unB ?_
  | with_reducible refine w_ret ?_
  | with_reducible refine w_drop ?_
  | with_reducible refine w_skip ?_
  | with_reducible refine w_eq (dAdd_int _ _ _) ?_
  | with_reducible refine w_eq (dSub_int _ _ _) ?_
  | with_reducible refine w_eq (dEq_int _ _ _) ?_
  | with_reducible refine w_eq (dEq_str _ _ _) ?_
  | with_reducible refine w_eq (dNe_strs _ _ _) ?_
  | with_reducible refine w_eq (dEq_bls _ _ _) ?_
  | with_reducible refine w_eq (dNe_bls _ _ _) ?_
  | with_reducible refine w_eq (dLt_int _ _ _) ?_
  | with_reducible refine w_eq (dLe_int _ _ _) ?_
  | with_reducible refine w_eq (dGt_int _ _ _) ?_
  | with_reducible refine w_eq (dGe_int _ _ _) ?_
  | with_reducible refine w_eq (dNe_int _ _ _) ?_
  | ((with_reducible refine w_mod ?_ ?_); (first | assumption | decide | omega))
  | ((with_reducible refine w_fdiv ?_ ?_); (first | assumption | decide | omega))
  | ((with_reducible refine w_mulS ?_ ?_); (first | decide | omega))
  | ((with_reducible refine w_addS ?_ ?_); (first | assumption | decide | omega))
  | ((with_reducible refine w_lenS ?_ ?_); (first | assumption | decide | omega))
  | ((with_reducible refine w_slS ?_ ?_); (first | assumption | decide | omega))
  | with_reducible refine w_lenTm ?_
  | with_reducible refine w_eq (dLen_tup _ _) ?_
  | with_reducible refine w_eq (dSl_tup _ _ _ _) ?_
  | with_reducible refine w_eq (dMax_ev _ _ _) ?_
  | with_reducible refine w_eq (dMin_ev _ _ _) ?_
  | with_reducible refine w_eq (dAbs_ev _ _) ?_
  | with_reducible refine w_not ?_
  | with_reducible refine w_and ?_
  | with_reducible refine w_or ?_
  | with_reducible refine br_n ?_
  | with_reducible refine br_tt ?_
  | with_reducible refine br_ff ?_
  | ((with_reducible refine br_dt ?_ ?_); (first | assumption | omega | rfl))
  | ((with_reducible refine br_df ?_ ?_); (first | assumption | omega))
  | with_reducible refine w_tup ?_
  | ((with_reducible refine w_toTup ?_ ?_); exact (by simp))
  | with_reducible refine w_lst ?_
  | with_reducible refine w_lc ?_
  | with_reducible refine w_for ?_
  | with_reducible refine w_range1 ?_
  | with_reducible refine w_range2 ?_
  | ((with_reducible refine w_dR1 ?_ ?_); (first | decide | omega))
  | ((with_reducible refine w_dR2 ?_ ?_); (first | decide | omega))
  | with_reducible refine w_iter ?_
  | with_reducible refine w_eq (iter1_tup _ _) ?_
  | with_reducible refine w_eq (iter1_str _ _) ?_
  | with_reducible refine w_sl ?_
  | with_reducible refine w_no ?_
  | with_reducible refine w_some ?_
  | with_reducible refine w_unI ?_
  | with_reducible refine w_meth ?_
  | with_reducible refine w_isi ?_
  | with_reducible refine w_zip ?_
  | with_reducible refine w_ifE ?_
  | with_reducible refine w_andV ?_
  | with_reducible refine w_orV ?_
  | with_reducible refine w_notV ?_
  | with_reducible refine w_andK ?_
  | with_reducible refine w_orK ?_
  | with_reducible refine w_notK ?_
  | with_reducible refine w_revL ?_
  | with_reducible refine w_listRg1 ?_
  | with_reducible refine w_tindex ?_
  | with_reducible refine w_setIx ?_
  | with_reducible refine w_un ?_
  | with_reducible refine w_rev1 ?_
  | with_reducible refine w_rev2 ?_
  | with_reducible refine w_chain ?_
  | with_reducible refine w_chK ?_
  | with_reducible refine w_retN ?_
  | with_reducible refine w_brk ?_
  | with_reducible refine w_cont ?_
  | with_reducible refine w_asgT ?_
  | with_reducible refine w_eq (isi_str_str _ _) ?_
  | with_reducible refine w_eq (isi_int_int _ _) ?_
  | with_reducible refine w_eq (isi_tup_tup _ _) ?_
  | with_reducible refine w_eq (isi_bool_int _ _) ?_
  | with_reducible refine w_eq (isi_str_int _ _) ?_
  | ((with_reducible refine w_lenLm (α := ?_) (f := ?_) (l := ?_) ?_ ?_); rotate_left; rotate_left; rotate_left; walk_at "gl")
  | ((with_reducible refine w_lenL (l := ?_) ?_ ?_); rotate_left; walk_at "gl")
  | ((with_reducible refine w_iterL (l := ?_) ?_ ?_); rotate_left; walk_at "gl"; dsimp only)
  | ((with_reducible refine w_tupL (l := ?_) ?_ ?_); rotate_left; walk_at "gl")
  | ((with_reducible refine w_ixT (d := ?_) ?_ ?_); rotate_left; (first | with_reducible assumption | rfl))
  | ((with_reducible refine w_ixL (l := ?_) (d := ?_) ?_ ?_ ?_); rotate_left; rotate_left; walk_at "gl"; (first | with_reducible assumption | rfl))
  | ((with_reducible refine w_addT ?_ ?_); walk_at "bd")
  | ((with_reducible refine ⟨?_, ?_⟩); (with_reducible (show isListD (.ref _) _ = true)); walk_at "il")
  | with_reducible refine w_tryK ?_
  | with_reducible refine w_raise ?_
  | with_reducible refine w_raise0 ?_
  | with_reducible refine w_isX ?_
  | ((with_reducible refine w_isXK (k := ?_) ?_ ?_); rotate_left; (first | with_reducible exact lkA | (apply lkB; decide +kernel; exact lkA) | (apply lkB; decide +kernel; apply lkB; decide +kernel; exact lkA) | (apply lkB; decide +kernel; apply lkB; decide +kernel; apply lkB; decide +kernel; exact lkA)))
  | with_reducible refine w_xf ?_
  | ((with_reducible refine w_xfK ?_ ?_ ?_); (exact List.mem_cons_self); (decide))
  | with_reducible refine w_eq (isN_xo _) ?_
  | with_reducible refine w_eq (dNeg_int _ _) ?_)
local macro_rules | `(tactic| walk_at "go") => `(tactic| (repeat (walk_at "w")); try dsimp only [List.set])
local macro_rules | `(tactic| walk_at "fn") => `(tactic| ((refine w_fun ?_); simp only [startD, List.map_cons, List.map_nil, List.reduceReplicate, Nat.reduceSub, List.cons_append, List.nil_append]; walk_at "go"))
local macro_rules | `(tactic| walk_at "w") => `(tactic| first
  | with_reducible refine w_eq (notN_non _) ?_
  | with_reducible refine w_eq (notN_int _ _) ?_
  | with_reducible refine w_eq (isN_non _) ?_
  | with_reducible refine w_eq (isN_int _ _) ?_)
def cellR (kc : List (Nat × List Int)) : LL := kc.map fun p => (p.1, p.2.map D.int)
theorem o_listT54 {h0 h : MH} {L : LL} {l : List D} {Q : D → MH → Prop} {E : XE} (o : Own h0 h L) (q : ∀ i h', Own h0 h' ((i, l) :: L) → Q (.ref i) h') : Sat (dList [.tup l] h) Q E := w_eq (by simp [dList, seqOf]) (q _ _ (o.alloc _))
theorem Own.perm54 {h0 h : MH} {L M : LL} (o : Own h0 h L) (p : L.Perm M) : Own h0 h M := ⟨o.pre, fun q hq => o.cell q (p.mem_iff.mpr hq), (p.map _).nodup_iff.mp o.nd⟩
theorem cellR_at {kc : List (Nat × List Int)} {k : Nat} {p : Nat × List Int} (e : kc[k]? = some p) : (cellR kc)[k]? = some (p.1, p.2.map D.int) := by unfold cellR; rw [List.getElem?_map, e]; rfl
theorem cellR_set {kc : List (Nat × List Int)} {k : Nat} {j : Nat} {l : List Int} : (cellR kc).set k (j, l.map D.int) = cellR (kc.set k (j, l)) := by unfold cellR; rw [List.map_set]
theorem refs_set {kc : List (Nat × List Int)} {k : Nat} {p : Nat × List Int} (e : kc[k]? = some p) (l : List Int) : ((kc.set k (p.1, l)).map fun p => D.ref p.1) = kc.map fun p => D.ref p.1 := by
  rw [List.map_set]
  exact set_self (by rw [List.getElem?_map, e]; rfl)
/-- rows of a machine in cells -/
structure RowsC (n : Nat) (kc : List (Nat × List Int)) : Prop where
  len : kc.length = n
  row : ∀ p ∈ kc, p.2.length = n ∧ ∀ z ∈ p.2, 0 ≤ z ∧ z < (n : Int)
theorem RowsC.set {n : Nat} {kc : List (Nat × List Int)} (R : RowsC n kc) {k i : Nat} {p q : Nat × List Int} (e : kc[k]? = some p) (e2 : q ∈ kc) {r : Nat} (hr : r < n) : RowsC n (kc.set k (p.1, p.2.set i (q.2.getD r 0))) := by
  obtain ⟨a, b⟩ := R.row p (List.mem_of_getElem? e)
  obtain ⟨a2, b2⟩ := R.row q e2
  refine ⟨by rw [List.length_set]; exact R.len, fun x hx => ?_⟩
  rcases List.mem_or_eq_of_mem_set hx with hx | rfl
  · exact R.row x hx
  · refine ⟨by simp [a], fun z hz => ?_⟩
    rcases List.mem_or_eq_of_mem_set hz with hz | rfl
    · exact b z hz
    · exact b2 _ (getD_mem (by omega))
theorem cut_to54 (l : List D) {k : Nat} (hk : k ≤ l.length) : cutD l none (some (k : Int)) = l.take k := by
  unfold cutD
  rw [HT.sIx_none, HT.sIx_nat, Nat.min_eq_left hk]
  simp
section
variable {fs ns : List Str} {st : List Int} {sp : List (List Int)} {mk : List Int}
theorem k_like54 {N : Nat} (g : GOk N fs ns st sp mk) (hN : N ≤ 60) {p q : Nat} {side : Int} (hp : p < sp.length) (hq : q < sp.length) {h : MH} :
    Sat (m_like_on_a_side_2a257 [gmD fs ns st sp mk, .int (p : Int), .int (q : Int), .int side] h) (fun d h' => h <+: h' ∧ ∃ sp2 mk2, d = gmD fs ns st sp2 mk2 ∧ GOk N fs ns st sp2 mk2 ∧ sp2.length = sp.length) noX := by
  have hn := g.nm
  have hmk := g.mkl
  unfold gmD
  walk_at "fn"
  refine o_compS (σ := List (Nat × List Int)) cellR (fun k acc s => acc = (s.map fun p => D.ref p.1) ∧ s.map (·.2) = sp.take k) (s0 := []) (Own.nil h) ⟨rfl, by simp⟩ (by simp; omega) (fun _ _ _ _ _ => rfl) ?_ ?_
  · intro k d acc s c h' hd hacc hI o
    rw [List.getElem?_map, Option.map_eq_some_iff] at hd
    obtain ⟨r, er, rfl⟩ := hd
    refine ⟨_, rfl, ?_⟩
    dsimp only [wipeD, List.set]
    walk_at "go"
    refine o_listT54 o fun i h2 o2 => ?_
    refine ⟨s ++ [(i, r)], ?_, ?_, ?_⟩
    · refine o2.perm54 ?_
      have e1 : cellR (s ++ [(i, r)]) = cellR s ++ [(i, r.map D.int)] := by unfold cellR; rw [List.map_append]; rfl
      rw [e1]
      refine List.Perm.trans ?_ ((List.Perm.cons (c, acc) (List.perm_append_singleton _ _)).symm)
      exact List.Perm.swap _ _ _
    · rw [hI.1, List.map_append]; rfl
    · rw [List.map_append, hI.2, take_snoc er]; rfl
  intro acc s c h1 hacc hI o1
  obtain ⟨rfl, hs⟩ := hI
  rw [List.length_map, List.take_length] at hs
  have R0 : RowsC sp.length s := by
    have hl : s.length = sp.length := by rw [← hs, List.length_map]
    refine ⟨hl, fun x hx => ?_⟩
    have : x.2 ∈ sp := by rw [← hs]; exact List.mem_map.mpr ⟨x, hx, rfl⟩
    exact g.row _ this
  have hsl := R0.len
  have lz : (s.map fun p => D.ref p.1).length = sp.length := by rw [List.length_map, hsl]
  have g1 := o1.atL 0 rfl
  walk_at "go"
  refine w_loop0 (fun k ρ h' => ∃ (o5 o6 o7 : Option D) (s : List (Nat × List Int)), ρ = [some (gmD fs ns st sp mk), some (.int (p : Int)), some (.int (q : Int)), some (.int side), some (.ref c), o5, none, none] ∧ Own h h' ((c, s.map fun p => D.ref p.1) :: cellR s) ∧ RowsC sp.length s) ⟨none, none, none, s, rfl, o1, R0⟩ (fun _ _ _ _ => rfl) ?_ ?_
  · rintro r d ρ h2 hd ⟨o5, o6, o7, s, rfl, ow, R⟩
    obtain ⟨hr, rfl⟩ := rangeD_get hd
    have hr' : r < sp.length := by simp at hr; omega
    have hl := R.len
    rw [show (0 : Int) + (r : Int) = (r : Int) by omega]
    have gS := ow.atL 0 rfl
    have cell : ∀ k : Nat, k < sp.length → ∃ x : Nat × List Int, s[k]? = some x ∧ x ∈ s ∧ atI (s.map fun p => D.ref p.1) (k : Int) = some (.ref x.1) ∧ getL h2 x.1 = some (x.2.map D.int) ∧ x.2.length = sp.length := fun k hk => by
      have e := List.getElem?_eq_getElem (l := s) (i := k) (by omega)
      refine ⟨s[k], e, List.getElem_mem _, atI_at (by rw [List.getElem?_map, e]; rfl), ow.atL (k + 1) (by rw [List.getElem?_cons_succ]; exact cellR_at e), (R.row _ (List.getElem_mem _)).1⟩
    obtain ⟨xp, ep, mp, ap, gp, lp⟩ := cell p hp
    obtain ⟨xq, eq, mq, aq, gq, lq⟩ := cell q hq
    obtain ⟨xr, er, mr, ar, gr, lr⟩ := cell r hr'
    have vp : atI (xp.2.map D.int) (r : Int) = some (.int (xp.2.getD r 0)) := at_nat (by omega)
    have vr : atI (xr.2.map D.int) (p : Int) = some (.int (xr.2.getD p 0)) := at_nat (by omega)
    refine ⟨_, rfl, ?_⟩
    dsimp only [List.set]
    walk_at "go"
    refine br_d (fun c1 => ?_) (fun c1 => ?_)
    · walk_at "go"
      refine o_set (m := r) ow (q + 1) (by rw [List.getElem?_cons_succ]; exact cellR_at eq) (by unfold ixN; simp; omega) fun h3 o3 => ?_
      refine ⟨_, none, none, s.set q (xq.1, xq.2.set r (xp.2.getD r 0)), rfl, ?_, R.set eq mp hr'⟩
      rw [refs_set eq]
      rw [List.set_cons_succ, ← List.map_set, cellR_set] at o3
      exact o3
    · walk_at "go"
      refine o_set (m := q) ow (r + 1) (by rw [List.getElem?_cons_succ]; exact cellR_at er) (by unfold ixN; simp; omega) fun h3 o3 => ?_
      refine ⟨_, none, none, s.set r (xr.1, xr.2.set q (xr.2.getD p 0)), rfl, ?_, R.set er mr hp⟩
      rw [refs_set er]
      rw [List.set_cons_succ, ← List.map_set, cellR_set] at o3
      exact o3
  rintro ρ h2 ⟨o5, o6, o7, s, rfl, ow, R⟩
  have hl := R.len
  have vp : atI (mk.map D.int) (p : Int) = some (.int (mk.getD p 0)) := at_nat (by omega)
  unfold gmD
  walk_at "go"
  refine o_listT54 ow fun jm h3 o3 => ?_
  have gm := o3.atL 0 rfl
  walk_at "go"
  refine o_set (m := q) o3 0 rfl (by unfold ixN; simp; omega) fun h4 o4 => ?_
  rw [List.set_cons_zero, ← List.map_set] at o4
  have gS := o4.atL 1 rfl
  walk_at "go"
  rw [show (3 : Int) = ((3 : Nat) : Int) from rfl, cut_to54 _ (by simp)]
  simp only [List.take_succ_cons, List.take_zero]
  have o5' := o4.none
  refine o_comp (fun k y => ∃ x : Nat × List Int, s[k]? = some x ∧ y = .tup (x.2.map D.int)) o4 (by simp; omega) (fun h' pr => decide_eq_true (pre_getL pr gS)) ?_ ?_
  · intro k d h5 hd hp5
    rw [List.getElem?_map, Option.map_eq_some_iff] at hd
    obtain ⟨x, ex, rfl⟩ := hd
    have gx := pre_getL hp5 (o4.atL (k + 2) (by rw [List.getElem?_cons_succ, List.getElem?_cons_succ]; exact cellR_at ex))
    refine ⟨_, rfl, ?_⟩
    dsimp only [wipeD, List.set]
    walk_at "go"
    exact ⟨rfl, x, ex, rfl⟩
  intro ys hy hys jt h5 o5
  have ey : ys = (s.map (·.2)).map fun r => D.tup (r.map D.int) := by
    rw [List.map_map]
    refine List.ext_getElem (by simpa using hy) fun k a1 a2 => ?_
    obtain ⟨x, ex, e⟩ := hys k _ (List.getElem?_eq_getElem a1)
    obtain ⟨b1, b2⟩ := List.getElem?_eq_some_iff.mp ex
    rw [e, List.getElem_map, b2]
    rfl
  subst ey
  have gM := o5.atL 1 rfl
  have gT := o5.atL 0 rfl
  walk_at "go"
  refine w_addT (by simp) ?_
  refine ⟨o5.pre, s.map (·.2), mk.set q (mk.getD p 0), rfl, ?_, by rw [List.length_map, hl]⟩
  have e1 : (s.map (·.2)).length = sp.length := by rw [List.length_map, hl]
  refine ⟨by rw [e1]; exact g.n1, by rw [e1]; exact g.nm, fun r hr => ?_, g.stl, by rw [e1]; exact g.stv, by rw [e1, List.length_set]; exact hmk, fun z hz => ?_⟩
  · obtain ⟨x, hx, rfl⟩ := List.mem_map.mp hr
    rw [e1]
    exact R.row x hx
  · rcases List.mem_or_eq_of_mem_set hz with hz | rfl
    · exact g.mkv z hz
    · exact g.mkv _ (getD_mem (by omega))
end
end Mi

namespace Mi
open PySem L2
local macro_rules | `(tactic| walk_at "gl") => `(tactic| first
  | assumption
  | (refine Own.atL (h0 := ?_) (L := ?_) ?_ 0 ?_; rotate_left; rotate_left; assumption; rfl)
  | (refine Own.atL (h0 := ?_) (L := ?_) ?_ 1 ?_; rotate_left; rotate_left; assumption; rfl)
  | (refine Own.atL (h0 := ?_) (L := ?_) ?_ 2 ?_; rotate_left; rotate_left; assumption; rfl)
  | (refine Own.atL (h0 := ?_) (L := ?_) ?_ 3 ?_; rotate_left; rotate_left; assumption; rfl)
  | (refine Own.atL (h0 := ?_) (L := ?_) ?_ 4 ?_; rotate_left; rotate_left; assumption; rfl)
  | (refine Own.atL (h0 := ?_) (L := ?_) ?_ 5 ?_; rotate_left; rotate_left; assumption; rfl)
  | (refine Own.atL (h0 := ?_) (L := ?_) ?_ 6 ?_; rotate_left; rotate_left; assumption; rfl)
  | (refine Own.atL (h0 := ?_) (L := ?_) ?_ 7 ?_; rotate_left; rotate_left; assumption; rfl)
  | (refine Own.atL (h0 := ?_) (L := ?_) ?_ 8 ?_; rotate_left; rotate_left; assumption; rfl)
  | (refine Own.atL (h0 := ?_) (L := ?_) ?_ 9 ?_; rotate_left; rotate_left; assumption; rfl)
  | (refine Own.getL (h0 := ?_) (L := ?_) ?_ ?_; rotate_left; rotate_left; assumption; assumption))
local macro_rules | `(tactic| walk_at "il") => `(tactic| first
  | (refine Own.isL (h0 := ?_) (L := ?_) (l := ?_) ?_ 0 ?_; rotate_left; rotate_left; rotate_left; assumption; rfl)
  | (refine Own.isL (h0 := ?_) (L := ?_) (l := ?_) ?_ 1 ?_; rotate_left; rotate_left; rotate_left; assumption; rfl)
  | (refine Own.isL (h0 := ?_) (L := ?_) (l := ?_) ?_ 2 ?_; rotate_left; rotate_left; rotate_left; assumption; rfl)
  | (refine Own.isL (h0 := ?_) (L := ?_) (l := ?_) ?_ 3 ?_; rotate_left; rotate_left; rotate_left; assumption; rfl)
  | (refine Own.isL (h0 := ?_) (L := ?_) (l := ?_) ?_ 4 ?_; rotate_left; rotate_left; rotate_left; assumption; rfl)
  | (refine Own.isL (h0 := ?_) (L := ?_) (l := ?_) ?_ 5 ?_; rotate_left; rotate_left; rotate_left; assumption; rfl)
  | (refine Own.isL (h0 := ?_) (L := ?_) (l := ?_) ?_ 6 ?_; rotate_left; rotate_left; rotate_left; assumption; rfl)
  | (refine Own.isL (h0 := ?_) (L := ?_) (l := ?_) ?_ 7 ?_; rotate_left; rotate_left; rotate_left; assumption; rfl)
  | (refine Own.isL (h0 := ?_) (L := ?_) (l := ?_) ?_ 8 ?_; rotate_left; rotate_left; rotate_left; assumption; rfl)
  | (refine Own.isL (h0 := ?_) (L := ?_) (l := ?_) ?_ 9 ?_; rotate_left; rotate_left; rotate_left; assumption; rfl))
local macro_rules | `(tactic| walk_at "bd") => `(tactic| first | assumption | omega | (simp; done) | (simp; omega) | (simp [*]; done) | (simp [*]; omega))
local macro_rules | `(tactic| walk_at "w") => `(tactic| first
  | with_reducible refine w_seq ?_
  | with_reducible refine w_asg ?_
  | with_reducible refine w_cons ?_
  | with_reducible refine w_nil ?_
  | with_reducible refine w_c ?_
  | ((with_reducible refine w_var (d := ?_) ?_ ?_); rotate_left; rfl)
  | with_reducible refine w_bin ?_
  | with_reducible refine w_call ?_
  | with_reducible refine w_if ?_
  | with_reducible refine w_B ?_
  | with_reducible refine w_unB ?_
  | with_reducible refine w_ret ?_
  | with_reducible refine w_drop ?_
  | with_reducible refine w_skip ?_
  | with_reducible refine w_eq (dAdd_int _ _ _) ?_
  | with_reducible refine w_eq (dSub_int _ _ _) ?_
  | with_reducible refine w_eq (dEq_int _ _ _) ?_
  | with_reducible refine w_eq (dEq_str _ _ _) ?_
  | with_reducible refine w_eq (dNe_strs _ _ _) ?_
  | with_reducible refine w_eq (dEq_bls _ _ _) ?_
  | with_reducible refine w_eq (dNe_bls _ _ _) ?_
  | with_reducible refine w_eq (dLt_int _ _ _) ?_
  | with_reducible refine w_eq (dLe_int _ _ _) ?_
  | with_reducible refine w_eq (dGt_int _ _ _) ?_
  | with_reducible refine w_eq (dGe_int _ _ _) ?_
  | with_reducible refine w_eq (dNe_int _ _ _) ?_
  | ((with_reducible refine w_mod ?_ ?_); (first | assumption | decide | omega))
  | ((with_reducible refine w_fdiv ?_ ?_); (first | assumption | decide | omega))
  | ((with_reducible refine w_mulS ?_ ?_); (first | decide | omega))
  | ((with_reducible refine w_addS ?_ ?_); (first | assumption | decide | omega))
  | ((with_reducible refine w_lenS ?_ ?_); (first | assumption | decide | omega))
  | ((with_reducible refine w_slS ?_ ?_); (first | assumption | decide | omega))
  | with_reducible refine w_lenTm ?_
  | with_reducible refine w_eq (dLen_tup _ _) ?_
  | with_reducible refine w_eq (dSl_tup _ _ _ _) ?_
  | with_reducible refine w_eq (dMax_ev _ _ _) ?_
  | with_reducible refine w_eq (dMin_ev _ _ _) ?_
  | with_reducible refine w_eq (dAbs_ev _ _) ?_
  | with_reducible refine w_not ?_
  | with_reducible refine w_and ?_
  | with_reducible refine w_or ?_
  | with_reducible refine br_n ?_
  | with_reducible refine br_tt ?_
  | with_reducible refine br_ff ?_
  | ((with_reducible refine br_dt ?_ ?_); (first | assumption | omega | rfl))
  | ((with_reducible refine br_df ?_ ?_); (first | assumption | omega))
  | with_reducible refine w_tup ?_
  | ((with_reducible refine w_toTup ?_ ?_); exact (by simp))
  | with_reducible refine w_lst ?_
  | with_reducible refine w_lc ?_
  | with_reducible refine w_for ?_
  | with_reducible refine w_range1 ?_
  | with_reducible refine w_range2 ?_
  | ((with_reducible refine w_dR1 ?_ ?_); (first | decide | omega))
  | ((with_reducible refine w_dR2 ?_ ?_); (first | decide | omega))
  | with_reducible refine w_iter ?_
  | with_reducible refine w_eq (iter1_tup _ _) ?_
  | with_reducible refine w_eq (iter1_str _ _) ?_
  | with_reducible refine w_sl ?_
  | with_reducible refine w_no ?_
  | with_reducible refine w_some ?_
  | with_reducible refine w_unI ?_
  | with_reducible refine w_meth ?_
  | with_reducible refine w_isi ?_
  | with_reducible refine w_zip ?_
  | with_reducible refine w_ifE ?_
  | with_reducible refine w_andV ?_
  | with_reducible refine w_orV ?_
  | with_reducible refine w_notV ?_
  | with_reducible refine w_andK ?_
  | with_reducible refine w_orK ?_
  | with_reducible refine w_notK ?_
  | with_reducible refine w_revL ?_
  | with_reducible refine w_listRg1 ?_
  | with_reducible refine w_tindex ?_
  | with_reducible refine w_setIx ?_
  | with_reducible refine w_un ?_
  | with_reducible refine w_rev1 ?_
  | with_reducible refine w_rev2 ?_
  | with_reducible refine w_chain ?_
  | with_reducible refine w_chK ?_
  | with_reducible refine w_retN ?_
  | with_reducible refine w_brk ?_
  | with_reducible refine w_cont ?_
  | with_reducible refine w_asgT ?_
  | with_reducible refine w_eq (isi_str_str _ _) ?_
  | with_reducible refine w_eq (isi_int_int _ _) ?_
  | with_reducible refine w_eq (isi_tup_tup _ _) ?_
  | with_reducible refine w_eq (isi_bool_int _ _) ?_
  | with_reducible refine w_eq (isi_str_int _ _) ?_
  | ((with_reducible refine w_lenLm (α := ?_) (f := ?_) (l := ?_) ?_ ?_); rotate_left; rotate_left; rotate_left; walk_at "gl")
  | ((with_reducible refine w_lenL (l := ?_) ?_ ?_); rotate_left; walk_at "gl")
  | ((with_reducible refine w_iterL (l := ?_) ?_ ?_); rotate_left; walk_at "gl"; dsimp only)
  | ((with_reducible refine w_tupL (l := ?_) ?_ ?_); rotate_left; walk_at "gl")
  | ((with_reducible refine w_ixT (d := ?_) ?_ ?_); rotate_left; (first | with_reducible assumption | rfl))
  | ((with_reducible refine w_ixL (l := ?_) (d := ?_) ?_ ?_ ?_); rotate_left; rotate_left; walk_at "gl"; (first | with_reducible assumption | rfl))
  | ((with_reducible refine w_addT ?_ ?_); walk_at "bd")
  | ((with_reducible refine ⟨?_, ?_⟩); (with_reducible (show isListD (.ref _) _ = true)); walk_at "il")
  | with_reducible refine w_tryK ?_
  | with_reducible refine w_raise ?_
  | with_reducible refine w_raise0 ?_
  | with_reducible refine w_isX ?_
  | ((with_reducible refine w_isXK (k := ?_) ?_ ?_); rotate_left; (first | with_reducible exact lkA | (apply lkB; decide +kernel; exact lkA) | (apply lkB; decide +kernel; apply lkB; decide +kernel; exact lkA) | (apply lkB; decide +kernel; apply lkB; decide +kernel; apply lkB; decide +kernel; exact lkA)))
  | with_reducible refine w_xf ?_
  | ((with_reducible refine w_xfK ?_ ?_ ?_); (exact List.mem_cons_self); (decide))
  | with_reducible refine w_eq (isN_xo _) ?_
  | with_reducible refine w_eq (dNeg_int _ _) ?_)
local macro_rules | `(tactic| walk_at "go") => `(tactic| (repeat (walk_at "w")); try dsimp only [List.set])
local macro_rules | `(tactic| walk_at "fn") => `(tactic| ((refine w_fun ?_); simp only [startD, List.map_cons, List.map_nil, List.reduceReplicate, Nat.reduceSub, List.cons_append, List.nil_append]; walk_at "go"))
local macro_rules | `(tactic| walk_at "w") => `(tactic| first
  | with_reducible refine w_eq (notN_non _) ?_
  | with_reducible refine w_eq (notN_int _ _) ?_
  | with_reducible refine w_eq (isN_non _) ?_
  | with_reducible refine w_eq (isN_int _ _) ?_)
theorem at_of54 {P : Int → Prop} {l : List Int} (hl : ∀ z ∈ l, P z) {i : Int} (h0 : 0 ≤ i) (h1 : i < (l.length : Int)) : ∃ z, atI (l.map D.int) i = some (.int z) ∧ P z := by
  obtain ⟨y, a1, a2⟩ := atI_in (l := l.map D.int) h0 (by simpa using h1)
  rw [List.getElem?_map, Option.map_eq_some_iff] at a2
  obtain ⟨z, a3, rfl⟩ := a2
  exact ⟨z, a1, hl z (List.mem_of_getElem? a3)⟩
theorem k_counter54 {xs : List Int} (hx : ∀ x ∈ xs, 0 ≤ x) (hxl : 60 ≤ xs.length ∧ xs.length ≤ 1000) {h : MH} {i jf jn : Nat} (gi : getL h i = some (xs.map .int)) {fs ns : List Str} (gf : getL h jf = some (fs.map .str)) (gn : getL h jn = some (ns.map .str)) (hfl : 1 ≤ fs.length ∧ fs.length ≤ 20) (hnl : ns.length ≤ 20) :
    Sat (m_counter_24df0 [.ref i, .ref jf, .ref jn] h) (fun d h' => h <+: h' ∧ ∃ st sp mk, d = gmD fs ns st sp mk ∧ GOk 20 fs ns st sp mk) noX := by
  obtain ⟨x53, a53, h53⟩ := at_of54 (P := fun z => 0 ≤ z) hx (i := 53) (by decide) (by omega)
  obtain ⟨x54, a54, h54⟩ := at_of54 (P := fun z => 0 ≤ z) hx (i := 54) (by decide) (by omega)
  obtain ⟨x55, a55, h55⟩ := at_of54 (P := fun z => 0 ≤ z) hx (i := 55) (by decide) (by omega)
  have hm1 := mod_in x53 (n := 12) (by decide)
  have hm2 := mod_in x54 (n := 4) (by decide)
  have hm3 := mod_in x55 (n := 4) (by decide)
  walk_at "fn"
  generalize hm : 9 + x53 % 12 = m at *
  generalize hw : x54 % 4 = way at *
  have hmm : 9 ≤ m ∧ m ≤ 20 := by omega
  have hw2 := mod_in way (n := 2) (by decide)
  refine o_new (Own.nil h) (by simp) fun js h1 o1 => ?_
  walk_at "go"
  refine w_loop0 (fun k ρ h' => ∃ (o6 o9 : Option D) (sp : List (List Int)), ρ = [some (.ref i), some (.ref jf), some (.ref jn), some (.int m), some (.int way), some (.ref js), o6, none, none, o9, none, none] ∧ Own h h' [(js, sp.map fun r => D.tup (r.map .int))] ∧ sp.length = k ∧ ∀ r ∈ sp, (r.length : Int) = m ∧ ∀ z ∈ r, 0 ≤ z ∧ z < m) ⟨none, none, [], rfl, o1, rfl, fun r hr => by simp at hr⟩ (fun _ _ _ _ => rfl) ?_ ?_
  · rintro p d ρ h2 hd ⟨o6, o9, sp, rfl, o, hk, hsp⟩
    obtain ⟨hp, rfl⟩ := rangeD_get hd
    rw [show (0 : Int) + (p : Int) = (p : Int) by omega]
    have hmp := mod_in ((p : Int) + 1) (n := m) (by omega)
    refine ⟨_, rfl, ?_⟩
    dsimp only [List.set]
    walk_at "go"
    refine o_new o (by simp) fun jl h3 o3 => ?_
    have g3 := o3.atL 0 rfl
    have gi3 := o3.getL gi
    have e3 : ∀ (a b : Int), [D.int a, D.int b] = [a, b].map D.int := fun _ _ => rfl
    rw [e3] at g3
    obtain ⟨fz, af, hf⟩ := at_of54 (P := fun z => 0 ≤ z ∧ z < m) (l := [if m - 1 < (p : Int) + 1 then m - 1 else (p : Int) + 1, ((p : Int) + 1) % m]) (fun z hz => by
      simp at hz
      rcases hz with rfl | rfl
      · split <;> omega
      · exact hmp) (i := way % 2) hw2.1 (by simp; omega)
    walk_at "go"
    refine o_compS (σ := Unit) (fun _ => [(jl, [if m - 1 < (p : Int) + 1 then m - 1 else (p : Int) + 1, ((p : Int) + 1) % m].map D.int), (js, sp.map fun r => D.tup (r.map .int))]) (fun k acc _ => ∀ y ∈ acc, ∃ z, y = .int z ∧ 0 ≤ z ∧ z < m) (s0 := ()) o3 (by simp) (by rw [rangeD_length]; omega) (fun _ _ _ _ _ => rfl) ?_ ?_
    · intro q d acc _ c h4 hd hacc ha o4
      obtain ⟨hq, rfl⟩ := rangeD_get hd
      rw [show (0 : Int) + (q : Int) = (q : Int) by omega]
      refine ⟨_, rfl, ?_⟩
      dsimp only [wipeD, List.set]
      walk_at "go"
      refine o_new o4 (by simp) fun j2 h5 o5 => ?_
      have g5 := o5.atL 0 rfl
      rw [e3] at g5
      have fin : ∀ b : Bool, Sat (dInt [.bl b] h5) (fun y h2 => Sat (dIx (.ref j2) y h2) (fun y h2 => ∃ s' : Unit, Own h h2 ((c, acc) :: [(jl, [if m - 1 < (p : Int) + 1 then m - 1 else (p : Int) + 1, ((p : Int) + 1) % m].map D.int), (js, sp.map fun r => D.tup (r.map .int))]) ∧ ∀ y' ∈ acc ++ [y], ∃ z, y' = .int z ∧ 0 ≤ z ∧ z < m) noX) noX := fun b => by
        refine w_eq (dInt_bl _ _) ?_
        obtain ⟨v, av, hv⟩ := at_of54 (P := fun z => 0 ≤ z ∧ z < m) (l := [fz, (p : Int)]) (fun z hz => by
          simp at hz
          rcases hz with rfl | rfl
          · exact hf
          · omega) (i := if b = true then 1 else 0) (by split <;> omega) (by split <;> simp)
        refine w_ixL g5 av ?_
        exact ⟨(), o5.tail, fun y hy => by
          rcases List.mem_append.mp hy with q | q
          · exact ha y q
          · rw [List.mem_singleton] at q; subst q; exact ⟨v, rfl, hv⟩⟩
      walk_at "go"
      refine br_d (fun _ => ?_) (fun _ => ?_)
      · walk_at "go"
        exact fin _
      · walk_at "go"
        exact fin _
    · intro acc _ c h4 hacc ha o4
      rw [rangeD_length] at hacc
      obtain ⟨r, rfl, hr⟩ := ints_all (S := fun z => 0 ≤ z ∧ z < m) fun k y e => ha y (List.mem_of_getElem? e)
      rw [List.length_map] at hacc
      have gc := o4.atL 0 rfl
      walk_at "go"
      refine o_app o4 2 rfl (by simp; omega) fun h5 o5 => ?_
      simp only [List.set_cons_succ, List.set_cons_zero] at o5
      refine ⟨_, _, sp ++ [r], rfl, ?_, by simp [hk], fun r' hr' => ?_⟩
      · rw [List.map_append]; exact o5.tail.tail
      · rcases List.mem_append.mp hr' with q | q
        · exact hsp r' q
        · rw [List.mem_singleton] at q; subst q; exact ⟨by omega, hr⟩
  rintro ρ h2 ⟨o6, o9, sp, rfl, o, hk, hsp⟩
  rw [rangeD_length] at hk
  have gi2 := o.getL gi
  walk_at "go"
  refine o_new o (by simp) fun jl h3 o3 => ?_
  have g3 := o3.atL 0 rfl
  have e4 : ∀ (a b c d : Int), [D.int a, D.int b, D.int c, D.int d] = [a, b, c, d].map D.int := fun _ _ _ _ => rfl
  rw [e4] at g3
  have gi3 := o3.getL gi
  obtain ⟨low, al, _⟩ := at_of54 (P := fun _ => True) (l := [m - 1, m / 2, m - 1, m - 2]) (fun _ _ => trivial) (i := x55 % 4) hm3.1 (by simp; omega)
  walk_at "go"
  have gn3 := o3.getL gn
  walk_at "go"
  refine o_comp (fun _ y => ∃ z, y = .int z ∧ (0 ≤ z ∧ z < m)) o3 (by rw [rangeD_length]; omega) (fun _ _ => rfl) ?_ ?_
  · intro k d h' hd hp
    obtain ⟨hk, rfl⟩ := rangeD_get hd
    have g1 := pre_getL hp gi3
    obtain ⟨z, az, hz⟩ := at_of54 (P := fun z => 0 ≤ z) hx (i := 0 + (k : Int)) (by omega) (by omega)
    refine ⟨_, rfl, ?_⟩
    dsimp only [wipeD, List.set]
    walk_at "go"
    exact ⟨rfl, _, rfl, mod_in z (by omega)⟩
  intro ys hy hys j4 h4 o4
  obtain ⟨st, rfl, hst⟩ := ints_all hys
  rw [List.length_map, rangeD_length] at hy
  have g4 := o4.atL 0 rfl
  walk_at "go"
  have gf4 := o4.getL gf
  have gn4 := o4.getL gn
  have gs4 := o4.atL 2 rfl
  walk_at "go"
  refine o_comp (fun _ y => ∃ z, y = .int z ∧ (0 ≤ z ∧ z < 2)) o4 (by rw [rangeD_length]; omega) (fun _ _ => rfl) ?_ ?_
  · intro k d h' hd hp
    obtain ⟨hk, rfl⟩ := rangeD_get hd
    refine ⟨_, rfl, ?_⟩
    dsimp only [wipeD, List.set]
    walk_at "go"
    refine w_eq (dInt_bl _ _) ?_
    exact ⟨rfl, _, rfl, by split <;> omega, by split <;> omega⟩
  intro ys hy5 hys j5 h5 o5
  obtain ⟨mk, rfl, hmk⟩ := ints_all hys
  rw [List.length_map, rangeD_length] at hy5
  have g5 := o5.atL 0 rfl
  walk_at "go"
  have hlen : (sp.length : Int) = m := by omega
  have est : st.map D.int ++ [D.int 0] = (st ++ [0]).map D.int := by simp
  refine ⟨o5.pre, st ++ [0], sp, mk, by rw [est]; rfl, ⟨by omega, by omega, fun r hr => ?_, by simp; omega, fun z hz => ?_, by omega, fun z hz => ?_⟩⟩
  · obtain ⟨a, b⟩ := hsp r hr
    rw [hlen]
    exact ⟨by omega, b⟩
  · rw [hlen]
    rcases List.mem_append.mp hz with q | q
    · exact hst z q
    · rw [List.mem_singleton] at q; omega
  · have := hmk z hz
    have h2 : (2 : Int) ^ 1 ≤ 2 ^ fs.length := by
      have := Nat.pow_le_pow_right (n := 2) (by decide) hfl.1
      exact_mod_cast this
    omega
end Mi

namespace Mi
open PySem L2
local macro_rules | `(tactic| walk_at "gl") => `(tactic| first
  | assumption
  | (refine Own.atL (h0 := ?_) (L := ?_) ?_ 0 ?_; rotate_left; rotate_left; assumption; rfl)
  | (refine Own.atL (h0 := ?_) (L := ?_) ?_ 1 ?_; rotate_left; rotate_left; assumption; rfl)
  | (refine Own.atL (h0 := ?_) (L := ?_) ?_ 2 ?_; rotate_left; rotate_left; assumption; rfl)
  | (refine Own.atL (h0 := ?_) (L := ?_) ?_ 3 ?_; rotate_left; rotate_left; assumption; rfl)
  | (refine Own.atL (h0 := ?_) (L := ?_) ?_ 4 ?_; rotate_left; rotate_left; assumption; rfl)
  | (refine Own.atL (h0 := ?_) (L := ?_) ?_ 5 ?_; rotate_left; rotate_left; assumption; rfl)
  | (refine Own.atL (h0 := ?_) (L := ?_) ?_ 6 ?_; rotate_left; rotate_left; assumption; rfl)
  | (refine Own.atL (h0 := ?_) (L := ?_) ?_ 7 ?_; rotate_left; rotate_left; assumption; rfl)
  | (refine Own.atL (h0 := ?_) (L := ?_) ?_ 8 ?_; rotate_left; rotate_left; assumption; rfl)
  | (refine Own.atL (h0 := ?_) (L := ?_) ?_ 9 ?_; rotate_left; rotate_left; assumption; rfl)
  | (refine Own.getL (h0 := ?_) (L := ?_) ?_ ?_; rotate_left; rotate_left; assumption; assumption))
local macro_rules | `(tactic| walk_at "il") => `(tactic| first
  | (refine Own.isL (h0 := ?_) (L := ?_) (l := ?_) ?_ 0 ?_; rotate_left; rotate_left; rotate_left; assumption; rfl)
  | (refine Own.isL (h0 := ?_) (L := ?_) (l := ?_) ?_ 1 ?_; rotate_left; rotate_left; rotate_left; assumption; rfl)
  | (refine Own.isL (h0 := ?_) (L := ?_) (l := ?_) ?_ 2 ?_; rotate_left; rotate_left; rotate_left; assumption; rfl)
  | (refine Own.isL (h0 := ?_) (L := ?_) (l := ?_) ?_ 3 ?_; rotate_left; rotate_left; rotate_left; assumption; rfl)
  | (refine Own.isL (h0 := ?_) (L := ?_) (l := ?_) ?_ 4 ?_; rotate_left; rotate_left; rotate_left; assumption; rfl)
  | (refine Own.isL (h0 := ?_) (L := ?_) (l := ?_) ?_ 5 ?_; rotate_left; rotate_left; rotate_left; assumption; rfl)
  | (refine Own.isL (h0 := ?_) (L := ?_) (l := ?_) ?_ 6 ?_; rotate_left; rotate_left; rotate_left; assumption; rfl)
  | (refine Own.isL (h0 := ?_) (L := ?_) (l := ?_) ?_ 7 ?_; rotate_left; rotate_left; rotate_left; assumption; rfl)
  | (refine Own.isL (h0 := ?_) (L := ?_) (l := ?_) ?_ 8 ?_; rotate_left; rotate_left; rotate_left; assumption; rfl)
  | (refine Own.isL (h0 := ?_) (L := ?_) (l := ?_) ?_ 9 ?_; rotate_left; rotate_left; rotate_left; assumption; rfl))
local macro_rules | `(tactic| walk_at "bd") => `(tactic| first | assumption | omega | (simp; done) | (simp; omega) | (simp [*]; done) | (simp [*]; omega))
local macro_rules | `(tactic| walk_at "w") => `(tactic| first
  | with_reducible refine w_seq ?_
  | with_reducible refine w_asg ?_
  | with_reducible refine w_cons ?_
  | with_reducible refine w_nil ?_
  | with_reducible refine w_c ?_
  | ((with_reducible refine w_var (d := ?_) ?_ ?_); rotate_left; rfl)
  | with_reducible refine w_bin ?_
  | with_reducible refine w_call ?_
  | with_reducible refine w_if ?_
  | with_reducible refine w_B ?_
  | with_reducible refine w_unB ?_
  | with_reducible refine w_ret ?_
  | with_reducible refine w_drop ?_
  | with_reducible refine w_skip ?_
  | with_reducible refine w_eq (dAdd_int _ _ _) ?_
  | with_reducible refine w_eq (dSub_int _ _ _) ?_
  | with_reducible refine w_eq (dEq_int _ _ _) ?_
  | with_reducible refine w_eq (dEq_str _ _ _) ?_
  | with_reducible refine w_eq (dNe_strs _ _ _) ?_
  | with_reducible refine w_eq (dEq_bls _ _ _) ?_
  | with_reducible refine w_eq (dNe_bls _ _ _) ?_
  | with_reducible refine w_eq (dLt_int _ _ _) ?_
  | with_reducible refine w_eq (dLe_int _ _ _) ?_
  | with_reducible refine w_eq (dGt_int _ _ _) ?_
  | with_reducible refine w_eq (dGe_int _ _ _) ?_
  | with_reducible refine w_eq (dNe_int _ _ _) ?_
  | ((with_reducible refine w_mod ?_ ?_); (first | assumption | decide | omega))
  | ((with_reducible refine w_fdiv ?_ ?_); (first | assumption | decide | omega))
  | ((with_reducible refine w_mulS ?_ ?_); (first | decide | omega))
  | ((with_reducible refine w_addS ?_ ?_); (first | assumption | decide | omega))
  | ((with_reducible refine w_lenS ?_ ?_); (first | assumption | decide | omega))
  | ((with_reducible refine w_slS ?_ ?_); (first | assumption | decide | omega))
  | with_reducible refine w_lenTm ?_
  | with_reducible refine w_eq (dLen_tup _ _) ?_
  | with_reducible refine w_eq (dSl_tup _ _ _ _) ?_
  | with_reducible refine w_eq (dMax_ev _ _ _) ?_
  | with_reducible refine w_eq (dMin_ev _ _ _) ?_
  | with_reducible refine w_eq (dAbs_ev _ _) ?_
  | with_reducible refine w_not ?_
  | with_reducible refine w_and ?_
  | with_reducible refine w_or ?_
  | with_reducible refine br_n ?_
  | with_reducible refine br_tt ?_
  | with_reducible refine br_ff ?_
  | ((with_reducible refine br_dt ?_ ?_); (first | assumption | omega | rfl))
  | ((with_reducible refine br_df ?_ ?_); (first | assumption | omega))
  | with_reducible refine w_tup ?_
  | ((with_reducible refine w_toTup ?_ ?_); exact (by simp))
  | with_reducible refine w_lst ?_
  | with_reducible refine w_lc ?_
  | with_reducible refine w_for ?_
  | with_reducible refine w_range1 ?_
  | with_reducible refine w_range2 ?_
  | ((with_reducible refine w_dR1 ?_ ?_); (first | decide | omega))
  | ((with_reducible refine w_dR2 ?_ ?_); (first | decide | omega))
  | with_reducible refine w_iter ?_
  | with_reducible refine w_eq (iter1_tup _ _) ?_
  | with_reducible refine w_eq (iter1_str _ _) ?_
  | with_reducible refine w_sl ?_
  | with_reducible refine w_no ?_
  | with_reducible refine w_some ?_
  | with_reducible refine w_unI ?_
  | with_reducible refine w_meth ?_
  | with_reducible refine w_isi ?_
  | with_reducible refine w_zip ?_
  | with_reducible refine w_ifE ?_
  | with_reducible refine w_andV ?_
  | with_reducible refine w_orV ?_
  | with_reducible refine w_notV ?_
  | with_reducible refine w_andK ?_
  | with_reducible refine w_orK ?_
  | with_reducible refine w_notK ?_
  | with_reducible refine w_revL ?_
  | with_reducible refine w_listRg1 ?_
  | with_reducible refine w_tindex ?_
  | with_reducible refine w_setIx ?_
  | with_reducible refine w_un ?_
  | with_reducible refine w_rev1 ?_
  | with_reducible refine w_rev2 ?_
  | with_reducible refine w_chain ?_
  | with_reducible refine w_chK ?_
  | with_reducible refine w_retN ?_
  | with_reducible refine w_brk ?_
  | with_reducible refine w_cont ?_
  | with_reducible refine w_asgT ?_
  | with_reducible refine w_eq (isi_str_str _ _) ?_
  | with_reducible refine w_eq (isi_int_int _ _) ?_
  | with_reducible refine w_eq (isi_tup_tup _ _) ?_
  | with_reducible refine w_eq (isi_bool_int _ _) ?_
  | with_reducible refine w_eq (isi_str_int _ _) ?_
  | ((with_reducible refine w_lenLm (α := ?_) (f := ?_) (l := ?_) ?_ ?_); rotate_left; rotate_left; rotate_left; walk_at "gl")
  | ((with_reducible refine w_lenL (l := ?_) ?_ ?_); rotate_left; walk_at "gl")
  | ((with_reducible refine w_iterL (l := ?_) ?_ ?_); rotate_left; walk_at "gl"; dsimp only)
  | ((with_reducible refine w_tupL (l := ?_) ?_ ?_); rotate_left; walk_at "gl")
  | ((with_reducible refine w_ixT (d := ?_) ?_ ?_); rotate_left; (first | with_reducible assumption | rfl))
  | ((with_reducible refine w_ixL (l := ?_) (d := ?_) ?_ ?_ ?_); rotate_left; rotate_left; walk_at "gl"; (first | with_reducible assumption | rfl))
  | ((with_reducible refine w_addT ?_ ?_); walk_at "bd")
  | ((with_reducible refine ⟨?_, ?_⟩); (with_reducible (show isListD (.ref _) _ = true)); walk_at "il")
  | with_reducible refine w_tryK ?_
  | with_reducible refine w_raise ?_
  | with_reducible refine w_raise0 ?_
  | with_reducible refine w_isX ?_
  | ((with_reducible refine w_isXK (k := ?_) ?_ ?_); rotate_left; (first | with_reducible exact lkA | (apply lkB; decide +kernel; exact lkA) | (apply lkB; decide +kernel; apply lkB; decide +kernel; exact lkA) | (apply lkB; decide +kernel; apply lkB; decide +kernel; apply lkB; decide +kernel; exact lkA)))
  | with_reducible refine w_xf ?_
  | ((with_reducible refine w_xfK ?_ ?_ ?_); (exact List.mem_cons_self); (decide))
  | with_reducible refine w_eq (isN_xo _) ?_
  | with_reducible refine w_eq (dNeg_int _ _) ?_)
local macro_rules | `(tactic| walk_at "go") => `(tactic| (repeat (walk_at "w")); try dsimp only [List.set])
local macro_rules | `(tactic| walk_at "fn") => `(tactic| ((refine w_fun ?_); simp only [startD, List.map_cons, List.map_nil, List.reduceReplicate, Nat.reduceSub, List.cons_append, List.nil_append]; walk_at "go"))
local macro_rules | `(tactic| walk_at "w") => `(tactic| first
  | with_reducible refine w_eq (notN_non _) ?_
  | with_reducible refine w_eq (notN_int _ _) ?_
  | with_reducible refine w_eq (isN_non _) ?_
  | with_reducible refine w_eq (isN_int _ _) ?_)
/-- a comprehension with a condition, whose parts change nothing -/
theorem o_compF54 {h0 h : MH} {L : LL} {Q : D → MH → Prop} {E : XE} {gd : MH → Bool} {tg : MG} {tt : MT} {te : ME} {ρ : Slots} (bf : D → Bool) (vf : D → D) {items : List D} (o : Own h0 h L) (hl : items.length ≤ 1000000)
    (hg : ∀ h', h <+: h' → gd h' = true)
    (hs : ∀ (i : Nat) d h', items[i]? = some d → h <+: h' → ∃ ρ1, tg d ρ = some ρ1 ∧ Sat (tt ρ1 h') (fun b h2 => h2 = h' ∧ b = bf d) noX ∧ Sat (te ρ1 h') (fun y h2 => h2 = h' ∧ y = vf d) noX)
    (hn : ∀ i h', Own h0 h' ((i, (items.filter bf).map vf) :: L) → Q (.ref i) h') : Sat (lcGo gd tg tt te h.length ρ items (h ++ [.lst []])) Q E := by
  refine w_comp (fun k acc h' => acc = ((items.take k).filter bf).map vf ∧ h' = h ++ [.lst acc]) (k := 0) ⟨by simp, rfl⟩ (by simp) (by simpa using hl) (fun i acc h' hi => by rw [hi.2]; exact hg _ (List.prefix_append _ _)) ?_ ?_
  · rintro i d acc h' hd ⟨ha, rfl⟩ hc
    rw [Nat.zero_add] at ha ⊢
    obtain ⟨ρ1, e1, s2, e3⟩ := hs i d (h ++ [.lst acc]) hd (List.prefix_append _ _)
    obtain ⟨b, h2, e2, rfl, rfl⟩ := s2.get
    refine ⟨ρ1, e1, bf d, _, e2, fun z => ⟨hc, ?_, rfl⟩, fun z => e3.mono ?_⟩
    · rw [take_snoc hd, List.filter_append, List.map_append, ← ha]
      simp [z]
    · rintro y h2 ⟨rfl, rfl⟩
      refine ⟨hc, ?_, by simp⟩
      rw [take_snoc hd, List.filter_append, List.map_append, ← ha]
      simp [z]
  · rintro acc h' ⟨ha, rfl⟩ hc
    rw [Nat.zero_add, List.take_length] at ha
    rw [ha]
    exact hn _ _ (o.alloc _)
abbrev refsR (kc : List (Nat × List Int)) : List D := kc.map fun p => D.ref p.1
/-- which states stand for which -/
structure Twin54 (n : Nat) (st : List Int) (sp : List (List Int)) (mk : List Int) (st2 : List Int) (sp2 : List (List Int)) (mk2 : List Int) (bs : List Int) : Prop where
  bl : bs.length = sp2.length
  bv : ∀ z ∈ bs, 0 ≤ z ∧ z < (n : Int)
  ball : ∀ b : Int, 0 ≤ b → b < (n : Int) → b ∈ bs
  sl : st2.length = st.length
  s : ∀ k : Nat, k < st.length → bs.getD (st2.getD k 0).toNat 0 = st.getD k 0
  p : ∀ p q : Nat, p < sp2.length → q < sp2.length → bs.getD (nx sp2 p q) 0 = ((nx sp (bs.getD p 0).toNat (bs.getD q 0).toNat : Nat) : Int)
  m : ∀ p : Nat, p < sp2.length → mk2.getD p 0 = mk.getD (bs.getD p 0).toNat 0
/-- the states that stand for one -/
def Heads54 (many : Nat) (bs : List Int) (b : Nat) (l : List Int) : Prop := 0 < l.length ∧ l.length ≤ many ∧ ∀ z ∈ l, 0 ≤ z ∧ z < (many : Int) ∧ bs.getD z.toNat 0 = (b : Int)
section
variable {fs ns : List Str} {st : List Int} {sp : List (List Int)} {mk : List Int}
theorem k_twins54 {N : Nat} (g : GOk N fs ns st sp mk) (hN : N ≤ 20) {xs : List Int} (hx : ∀ x ∈ xs, 0 ≤ x) (hxl : 60 ≤ xs.length ∧ xs.length ≤ 1000) {h : MH} {i : Nat} (gi : getL h i = some (xs.map .int)) {many : Nat} (hm : sp.length ≤ many ∧ many ≤ sp.length + 4) (hns : ns.length ≤ 10) {tb : Bool} :
    Sat (m_twins_efdf6 [.ref i, gmD fs ns st sp mk, .int (many : Int), .bl tb] h) (fun d h' => h <+: h' ∧ ∃ st2 sp2 mk2 bs, d = gmD fs ns st2 sp2 mk2 ∧ GOk many fs ns st2 sp2 mk2 ∧ sp2.length = many ∧ Twin54 sp.length st sp mk st2 sp2 mk2 bs) noX := by
  have hn := g.nm
  have hmk := g.mkl
  have hn1 := g.n1
  have hst := g.stl
  unfold gmD
  walk_at "fn"
  have em : (((mk.map D.int).length : Nat) : Int) = (sp.length : Int) := by simp [hmk]
  refine o_comp (fun k y => ∃ z : Int, y = .int z ∧ (0 ≤ z ∧ z < (sp.length : Int)) ∧ (k < sp.length → z = (k : Int))) (Own.nil h) (by rw [rangeD_length]; omega) (fun _ _ => rfl) ?_ ?_
  · intro k d h' hd hp
    obtain ⟨hk, rfl⟩ := rangeD_get hd
    rw [show (0 : Int) + (k : Int) = (k : Int) by omega]
    have g1 := pre_getL hp gi
    obtain ⟨z, az, hz⟩ := at_of54 (P := fun z => 0 ≤ z) hx (i := (k : Int)) (by omega) (by omega)
    have hzm := mod_in z (n := (sp.length : Int)) (by omega)
    refine ⟨_, rfl, ?_⟩
    dsimp only [wipeD, List.set]
    walk_at "go"
    refine br_d (fun c => ?_) (fun c => ?_)
    · walk_at "go"
      exact ⟨rfl, _, rfl, by omega, fun _ => rfl⟩
    · walk_at "go"
      refine ⟨rfl, _, rfl, ?_, fun _ => by omega⟩
      rw [hmk]
      exact hzm
  intro ys hy hys jb h1 o1
  obtain ⟨bs, rfl⟩ : ∃ bs : List Int, ys = bs.map .int := int_list54 fun k y e => by
    obtain ⟨z, e1, _⟩ := hys k y e
    exact ⟨z, e1⟩
  rw [List.length_map, rangeD_length] at hy
  have hbv : ∀ (k : Nat) z, bs[k]? = some z → (0 ≤ z ∧ z < (sp.length : Int)) ∧ (k < sp.length → z = (k : Int)) := fun k z e => by
    obtain ⟨z', e1, e2⟩ := hys k (.int z) (by rw [List.getElem?_map, e]; rfl)
    cases e1
    exact e2
  have hB : bs.length = many ∧ (∀ z ∈ bs, 0 ≤ z ∧ z < (sp.length : Int)) ∧ ∀ b : Int, 0 ≤ b → b < (sp.length : Int) → b ∈ bs := by
    refine ⟨by omega, fun z hz => ?_, fun b h0 h1 => ?_⟩
    · obtain ⟨k, hk⟩ := List.mem_iff_getElem?.mp hz
      exact (hbv k z hk).1
    · have hk : b.toNat < bs.length := by omega
      have e := List.getElem?_eq_getElem hk
      have := (hbv _ _ e).2 (by omega)
      have e2 : bs[b.toNat] = b := by omega
      rw [← e2]
      exact List.getElem_mem hk
  clear hys hbv hy
  walk_at "go"
  refine br_mid (fun ρ h' => ∃ (jb : Nat) (bs : List Int), ρ = [some (.ref i), some (gmD fs ns st sp mk), some (.int (many : Int)), some (.bl tb), some (.int (sp.length : Int)), some (.ref jb), none, none, none, none, none, none, none, none, none, none] ∧ Own h h' [(jb, bs.map .int)] ∧ (bs.length = many ∧ (∀ z ∈ bs, 0 ≤ z ∧ z < (sp.length : Int)) ∧ ∀ b : Int, 0 ≤ b → b < (sp.length : Int) → b ∈ bs)) ?_ ?_
  · cases tb with
    | true =>
      refine br_tt ?_
      walk_at "go"
      refine o_rev o1 (o1.atL 0 rfl) fun jr h2 o2 => ?_
      rw [← List.map_reverse] at o2
      rw [hmk]
      exact ⟨jr, bs.reverse, rfl, o2.head, by rw [List.length_reverse]; exact hB.1, fun z hz => hB.2.1 z (List.mem_reverse.mp hz), fun b a c => List.mem_reverse.mpr (hB.2.2 b a c)⟩
    | false =>
      refine br_ff ?_
      walk_at "go"
      rw [hmk]
      exact ⟨jb, bs, rfl, o1, hB⟩
  clear hB o1 bs jb
  rintro ρ h2 ⟨jb, bs, rfl, o2, hbl, hbv, hball⟩
  walk_at "go"
  refine o_new o2 (by simp) fun jh h3 o3 => ?_
  walk_at "go"
  refine w_loop0 (fun k ρ h' => ∃ (o7 o9 : Option D) (hs : List (Nat × List Int)), ρ = [some (.ref i), some (gmD fs ns st sp mk), some (.int (many : Int)), some (.bl tb), some (.int (sp.length : Int)), some (.ref jb), some (.ref jh), o7, none, o9, none, none, none, none, none, none] ∧ Own h h' ((jh, refsR hs) :: (jb, bs.map .int) :: cellR hs) ∧ hs.length = k ∧ ∀ (b : Nat) x, hs[b]? = some x → Heads54 many bs b x.2) ⟨none, none, [], rfl, o3, rfl, fun b x e => by simp at e⟩ (fun _ _ _ _ => rfl) ?_ ?_
  · rintro b d ρ h4 hd ⟨o7, o9, hs, rfl, ow, hk, hH⟩
    obtain ⟨hb, rfl⟩ := rangeD_get hd
    have hb' : b < sp.length := by simpa using hb
    rw [show (0 : Int) + (b : Int) = (b : Int) by omega]
    refine ⟨_, rfl, ?_⟩
    dsimp only [List.set]
    walk_at "go"
    let bf : D → Bool := fun d => match d with
      | .int k => decide (bs.getD k.toNat 0 = (b : Int))
      | _ => false
    refine o_compF54 bf id ow (by rw [rangeD_length]; omega) (fun _ _ => rfl) ?_ ?_
    · intro k d h5 hd5 hp5
      obtain ⟨hk5, rfl⟩ := rangeD_get hd5
      rw [show (0 : Int) + (k : Int) = (k : Int) by omega]
      have g5 := pre_getL hp5 (ow.atL 1 rfl)
      have ab : atI (bs.map D.int) (k : Int) = some (.int (bs.getD k 0)) := at_nat (by omega)
      refine ⟨_, rfl, ?_, ?_⟩
      · dsimp only [wipeD, List.set]
        walk_at "go"
        exact ⟨rfl, rfl⟩
      · dsimp only [wipeD, List.set]
        walk_at "go"
        exact ⟨rfl, rfl⟩
    intro jl h5 o5
    rw [List.map_id] at o5
    obtain ⟨l, el, hl⟩ : ∃ l : List Int, (rangeD 0 ((many : Int)).toNat).filter bf = l.map .int ∧ Heads54 many bs b l := by
      have er : rangeD 0 ((many : Int)).toNat = (List.range many).map fun (k : Nat) => D.int (k : Int) := by
        refine List.ext_getElem (by rw [rangeD_length]; simp) fun k a1 a2 => ?_
        have e1 := (rangeD_get (List.getElem?_eq_getElem a1)).2
        rw [e1]
        simp
      rw [er, List.filter_map]
      refine ⟨((List.range many).filter (bf ∘ fun (k : Nat) => D.int (k : Int))).map fun (k : Nat) => (k : Int), by rw [List.map_map]; rfl, ?_, ?_, ?_⟩
      · obtain ⟨k, hk⟩ := List.mem_iff_getElem?.mp (hball (b : Int) (by omega) (by omega))
        have hkl := (List.getElem?_eq_some_iff.mp hk).1
        refine List.length_pos_iff.mpr (List.ne_nil_of_mem (a := (k : Int)) (List.mem_map.mpr ⟨k, List.mem_filter.mpr ⟨List.mem_range.mpr (by omega), ?_⟩, rfl⟩))
        show decide (bs.getD ((k : Int)).toNat 0 = (b : Int)) = true
        rw [Int.toNat_natCast, List.getD_eq_getElem?_getD, hk]
        simp
      · rw [List.length_map]
        refine Nat.le_trans (List.length_filter_le _ _) ?_
        simp
      · intro z hz
        obtain ⟨k, hk, rfl⟩ := List.mem_map.mp hz
        obtain ⟨a, c⟩ := List.mem_filter.mp hk
        have := List.mem_range.mp a
        exact ⟨by omega, by omega, of_decide_eq_true c⟩
    rw [el] at o5
    walk_at "go"
    refine o_app o5 1 rfl (by simp; omega) fun h6 o6 => ?_
    simp only [List.set_cons_succ, List.set_cons_zero] at o6
    refine ⟨_, _, hs ++ [(jl, l)], rfl, ?_, by simp [hk], fun b' x e => ?_⟩
    · refine o6.perm54 ?_
      have e1 : cellR (hs ++ [(jl, l)]) = cellR hs ++ [(jl, l.map D.int)] := by unfold cellR; rw [List.map_append]; rfl
      rw [e1]
      show List.Perm _ ((jh, (hs ++ [(jl, l)]).map fun p => D.ref p.1) :: _)
      rw [List.map_append]
      refine (List.Perm.swap _ _ _).trans (List.Perm.cons _ ?_)
      refine (List.Perm.swap _ _ _).trans (List.Perm.cons _ ?_)
      exact (List.perm_append_singleton _ _).symm
    · rcases Nat.lt_or_ge b' hs.length with c | c
      · rw [List.getElem?_append_left c] at e
        exact hH b' x e
      · rw [List.getElem?_append_right c] at e
        have : b' - hs.length = 0 := by
          have := (List.getElem?_eq_some_iff.mp e).1
          simp at this; omega
        rw [this] at e
        simp at e
        subst e
        have : b' = b := by omega
        subst this
        exact hl
  rintro ρ h4 ⟨o7, o9, hs, rfl, o4, hk, hH⟩
  rw [rangeD_length, Int.toNat_natCast] at hk
  have gi4 := o4.getL gi
  -- what is found at a state
  have head : ∀ (b : Int), 0 ≤ b → b < (sp.length : Int) → ∃ (x : Nat × List Int), atI (refsR hs) b = some (.ref x.1) ∧ (∀ L h', Own h h' (L ++ cellR hs) → getL h' x.1 = some (x.2.map D.int)) ∧ Heads54 many bs b.toNat x.2 := fun b b0 b1 => by
    have e := List.getElem?_eq_getElem (l := hs) (i := b.toNat) (by omega)
    refine ⟨hs[b.toNat]'(by omega), ?_, fun L h' o => ?_, hH _ _ e⟩
    · have : atI (refsR hs) ((b.toNat : Nat) : Int) = some (.ref (hs[b.toNat]'(by omega)).1) := atI_at (by rw [List.getElem?_map, e]; rfl)
      rw [show ((b.toNat : Nat) : Int) = b by omega] at this
      exact this
    · refine o.atL (L.length + b.toNat) ?_
      rw [List.getElem?_append_right (by omega), Nat.add_sub_cancel_left]
      exact cellR_at e
  have stI := g.stv
  unfold gmD
  walk_at "go"
  refine o_new o4 (by simp) fun js h5 o5 => ?_
  walk_at "go"
  refine w_loop0 (fun k ρ h' => ∃ (o7 o9 o13 : Option D) (s2 : List Int), ρ = [some (.ref i), some (gmD fs ns st sp mk), some (.int (many : Int)), some (.bl tb), some (.int (sp.length : Int)), some (.ref jb), some (.ref jh), o7, some (.ref js), o9, none, none, none, o13, none, none] ∧ Own h h' ((js, s2.map .int) :: (jh, refsR hs) :: (jb, bs.map .int) :: cellR hs) ∧ s2.length = k ∧ (∀ z ∈ s2, 0 ≤ z ∧ z < (many : Int)) ∧ ∀ t : Nat, t < k → bs.getD (s2.getD t 0).toNat 0 = st.getD t 0) ⟨o7, o9, none, [], rfl, o5, rfl, by simp, fun t ht => by omega⟩ (fun _ _ _ _ => rfl) ?_ ?_
  · rintro k d ρ h6 hd ⟨o7, o9, o13, s2, rfl, ow, hk2, hv2, hs2⟩
    obtain ⟨hk', rfl⟩ := rangeD_get hd
    have hkk : k < st.length := by simpa using hk'
    rw [show (0 : Int) + (k : Int) = (k : Int) by omega]
    have ast : atI (st.map D.int) (k : Int) = some (.int (st.getD k 0)) := at_nat hkk
    have hz := stI _ (getD_mem hkk)
    obtain ⟨x, ax, gx, hx1, hx2, hx3⟩ := head (st.getD k 0) hz.1 hz.2
    have gx6 := gx [(js, s2.map .int), (jh, refsR hs), (jb, bs.map .int)] h6 ow
    have gh6 := ow.atL 1 rfl
    have gi6 := ow.getL gi
    obtain ⟨w, aw, hw⟩ := at_of54 (P := fun z => 0 ≤ z) hx (i := (many : Int) + (k : Int)) (by omega) (by omega)
    have hwm := mod_in w (n := (x.2.length : Int)) (by omega)
    obtain ⟨v, av, hv⟩ := at_of54 hx3 (i := w % (x.2.length : Int)) hwm.1 hwm.2
    refine ⟨_, rfl, ?_⟩
    unfold gmD
    dsimp only [List.set]
    walk_at "go"
    refine o_app ow 0 rfl (by simp; omega) fun h7 o7' => ?_
    rw [List.set_cons_zero] at o7'
    refine ⟨_, _, _, s2 ++ [v], rfl, by rw [List.map_append]; exact o7', by simp [hk2], fun z hz => ?_, fun t ht => ?_⟩
    · rcases List.mem_append.mp hz with q | q
      · exact hv2 z q
      · rw [List.mem_singleton] at q; subst q; exact ⟨hv.1, hv.2.1⟩
    · rcases Nat.lt_or_ge t k with c | c
      · rw [List.getD_eq_getElem?_getD, List.getD_eq_getElem?_getD (l := s2 ++ [v]), List.getElem?_append_left (by omega), ← List.getD_eq_getElem?_getD, ← List.getD_eq_getElem?_getD]
        exact hs2 t c
      · have : t = k := by omega
        subst this
        have e1 : (s2 ++ [v]).getD t 0 = v := by rw [List.getD_eq_getElem?_getD, List.getElem?_append_right (by omega), hk2, Nat.sub_self]; rfl
        rw [e1, hv.2.2]
        omega
  rintro ρ h6 ⟨o7, o9, o13, s2, rfl, o6, hk2, hv2, hs2⟩
  rw [rangeD_length] at hk2 hs2
  have hk2' : s2.length = st.length := by omega
  walk_at "go"
  refine o_new o6 (by simp) fun jp h7 o7' => ?_
  walk_at "go"
  refine w_loop0 (fun k ρ h' => ∃ (o11 o13 o14 o15 : Option D) (sp2 : List (List Int)), ρ = [some (.ref i), some (gmD fs ns st sp mk), some (.int (many : Int)), some (.bl tb), some (.int (sp.length : Int)), some (.ref jb), some (.ref jh), o7, some (.ref js), o9, some (.ref jp), o11, none, o13, o14, o15] ∧ Own h h' ((jp, sp2.map fun (r : List Int) => D.tup (r.map D.int)) :: (js, s2.map .int) :: (jh, refsR hs) :: (jb, bs.map .int) :: cellR hs) ∧ sp2.length = k ∧ ∀ (p : Nat) r, sp2[p]? = some r → r.length = many ∧ (∀ z ∈ r, 0 ≤ z ∧ z < (many : Int)) ∧ ∀ q : Nat, q < many → bs.getD (r.getD q 0).toNat 0 = ((nx sp (bs.getD p 0).toNat (bs.getD q 0).toNat : Nat) : Int)) ⟨none, o13, none, none, [], rfl, o7', rfl, fun p r e => by simp at e⟩ (fun _ _ _ _ => rfl) ?_ ?_
  · rintro p d ρ h8 hd ⟨o11, o13, o14, o15, sp2, rfl, ow, hk3, hsp⟩
    obtain ⟨hp, rfl⟩ := rangeD_get hd
    have hp' : p < many := by simpa using hp
    rw [show (0 : Int) + (p : Int) = (p : Int) by omega]
    have hbp := hbv _ (getD_mem (l := bs) (j := p) (by omega))
    have abp : atI (bs.map D.int) (p : Int) = some (.int (bs.getD p 0)) := at_nat (by omega)
    refine ⟨_, rfl, ?_⟩
    dsimp only [List.set]
    walk_at "go"
    refine o_new ow (by simp) fun jr h9 o9' => ?_
    walk_at "go"
    refine w_loop0 (fun k ρ h' => ∃ (o13 o15 : Option D) (r : List Int), ρ = [some (.ref i), some (gmD fs ns st sp mk), some (.int (many : Int)), some (.bl tb), some (.int (sp.length : Int)), some (.ref jb), some (.ref jh), o7, some (.ref js), o9, some (.ref jp), some (.int (p : Int)), none, o13, some (.ref jr), o15] ∧ Own h h' ((jr, r.map .int) :: (jp, sp2.map fun (r : List Int) => D.tup (r.map D.int)) :: (js, s2.map .int) :: (jh, refsR hs) :: (jb, bs.map .int) :: cellR hs) ∧ r.length = k ∧ (∀ z ∈ r, 0 ≤ z ∧ z < (many : Int)) ∧ ∀ q : Nat, q < k → bs.getD (r.getD q 0).toNat 0 = ((nx sp (bs.getD p 0).toNat (bs.getD q 0).toNat : Nat) : Int)) ⟨_, _, [], rfl, o9', rfl, by simp, fun q hq => by omega⟩ (fun _ _ _ _ => rfl) ?_ ?_
    · rintro q d ρ h10 hd ⟨o13, o15, r, rfl, ow, hkr, hrv, hrs⟩
      obtain ⟨hq, rfl⟩ := rangeD_get hd
      have hq' : q < many := by simpa using hq
      rw [show (0 : Int) + (q : Int) = (q : Int) by omega]
      have hbq := hbv _ (getD_mem (l := bs) (j := q) (by omega))
      have abq : atI (bs.map D.int) (q : Int) = some (.int (bs.getD q 0)) := at_nat (by omega)
      obtain ⟨row, r1, r2, r3⟩ := Rows.at ⟨g.row⟩ (p := (bs.getD p 0).toNat) (q := (bs.getD q 0).toNat) (by omega) (by omega)
      rw [show (((bs.getD p 0).toNat : Nat) : Int) = bs.getD p 0 by omega] at r1
      rw [show (((bs.getD q 0).toNat : Nat) : Int) = bs.getD q 0 by omega] at r2
      obtain ⟨x, ax, gx, hx1, hx2, hx3⟩ := head ((nx sp (bs.getD p 0).toNat (bs.getD q 0).toNat : Nat) : Int) (by omega) (by omega)
      have gx6 := gx [(jr, r.map .int), (jp, sp2.map fun (r : List Int) => D.tup (r.map D.int)), (js, s2.map .int), (jh, refsR hs), (jb, bs.map .int)] h10 ow
      have gh6 := ow.atL 3 rfl
      have gb6 := ow.atL 4 rfl
      have gi6 := ow.getL gi
      have hmp1 : (many : Int) * (p : Int) ≤ 24 * 24 := Int.mul_le_mul (by omega) (by omega) (by omega) (by omega)
      have hmp0 : 0 ≤ (many : Int) * (p : Int) := Int.mul_nonneg (by omega) (by omega)
      have hxm := mod_in ((many : Int) * (p : Int) + 5 * (q : Int)) (n := (xs.length : Int)) (by omega)
      obtain ⟨w, aw, hw⟩ := at_of54 (P := fun z => 0 ≤ z) hx (i := ((many : Int) * (p : Int) + 5 * (q : Int)) % (xs.length : Int)) hxm.1 hxm.2
      have hwm := mod_in (w / 7) (n := (x.2.length : Int)) (by omega)
      obtain ⟨v, av, hv⟩ := at_of54 hx3 (i := w / 7 % (x.2.length : Int)) hwm.1 hwm.2
      refine ⟨_, rfl, ?_⟩
      unfold gmD
      dsimp only [List.set]
      walk_at "go"
      refine o_app ow 0 rfl (by simp; omega) fun h11 o11' => ?_
      rw [List.set_cons_zero] at o11'
      refine ⟨_, _, r ++ [v], rfl, by rw [List.map_append]; exact o11', by simp [hkr], fun z hz => ?_, fun t ht => ?_⟩
      · rcases List.mem_append.mp hz with q | q
        · exact hrv z q
        · rw [List.mem_singleton] at q; subst q; exact ⟨hv.1, hv.2.1⟩
      · rcases Nat.lt_or_ge t q with c | c
        · rw [List.getD_eq_getElem?_getD (l := r ++ [v]), List.getElem?_append_left (by omega), ← List.getD_eq_getElem?_getD]
          exact hrs t c
        · have : t = q := by omega
          subst this
          have e1 : (r ++ [v]).getD t 0 = v := by rw [List.getD_eq_getElem?_getD, List.getElem?_append_right (by omega), hkr, Nat.sub_self]; rfl
          rw [e1, hv.2.2, Int.toNat_natCast]
    · rintro ρ h10 ⟨o13, o15, r, rfl, ow, hkr, hrv, hrs⟩
      rw [rangeD_length, Int.toNat_natCast] at hkr hrs
      have gr := ow.atL 0 rfl
      walk_at "go"
      refine o_app ow 1 rfl (by simp; omega) fun h11 o11' => ?_
      simp only [List.set_cons_succ, List.set_cons_zero] at o11'
      refine ⟨_, _, _, _, sp2 ++ [r], rfl, by rw [List.map_append]; exact o11'.tail, by simp [hk3], fun p' r' e => ?_⟩
      rcases Nat.lt_or_ge p' sp2.length with c | c
      · rw [List.getElem?_append_left c] at e
        exact hsp p' r' e
      · rw [List.getElem?_append_right c] at e
        have : p' - sp2.length = 0 := by
          have := (List.getElem?_eq_some_iff.mp e).1
          simp at this; omega
        rw [this] at e
        simp at e
        subst e
        have : p' = p := by omega
        subst this
        exact ⟨hkr, hrv, hrs⟩
  rintro ρ h8 ⟨o11, o13, o14, o15, sp2, rfl, o8, hk3, hsp⟩
  rw [rangeD_length, Int.toNat_natCast] at hk3
  have gb8 := o8.atL 3 rfl
  unfold gmD
  walk_at "go"
  refine o_comp (fun k y => ∃ z : Int, bs[k]? = some z ∧ y = .int (mk.getD z.toNat 0)) o8 (by simp; omega) (fun h' pr => decide_eq_true (pre_getL pr gb8)) ?_ ?_
  · intro k d h9 hd hp9
    rw [List.getElem?_map, Option.map_eq_some_iff] at hd
    obtain ⟨z, ez, rfl⟩ := hd
    have hz := hbv z (List.mem_of_getElem? ez)
    have am : atI (mk.map D.int) ((z.toNat : Nat) : Int) = some (.int (mk.getD z.toNat 0)) := at_nat (by omega)
    rw [show ((z.toNat : Nat) : Int) = z by omega] at am
    refine ⟨_, rfl, ?_⟩
    dsimp only [wipeD, List.set]
    walk_at "go"
    exact ⟨rfl, z, ez, rfl⟩
  intro ys hy hys jm h9 o9'
  rw [List.length_map] at hy
  have ey : ys = (bs.map fun z => mk.getD z.toNat 0).map D.int := by
    rw [List.map_map]
    refine List.ext_getElem (by simpa using hy) fun k a1 a2 => ?_
    obtain ⟨z, ez, e⟩ := hys k _ (List.getElem?_eq_getElem a1)
    obtain ⟨b1, b2⟩ := List.getElem?_eq_some_iff.mp ez
    rw [e, List.getElem_map, b2]
    rfl
  subst ey
  have gm9 := o9'.atL 0 rfl
  have gp9 := o9'.atL 1 rfl
  have gs9 := o9'.atL 2 rfl
  walk_at "go"
  have hlen : (sp2.length : Int) = (many : Int) := by omega
  refine ⟨o9'.pre, s2, sp2, bs.map fun z => mk.getD z.toNat 0, bs, rfl, ⟨by omega, by omega, fun r hr => ?_, by omega, fun z hz => ?_, by rw [List.length_map]; omega, fun z hz => ?_⟩, by omega, ⟨by omega, hbv, hball, hk2', fun k hk => hs2 k (by omega), fun p q hp hq => ?_, fun p hp => ?_⟩⟩
  · obtain ⟨p, hp⟩ := List.mem_iff_getElem?.mp hr
    obtain ⟨a, b, _⟩ := hsp p r hp
    rw [hlen]
    exact ⟨by omega, b⟩
  · rw [hlen]
    exact hv2 z hz
  · obtain ⟨b, hb, rfl⟩ := List.mem_map.mp hz
    have := hbv b hb
    exact g.mkv _ (getD_mem (by omega))
  · have e := List.getElem?_eq_getElem hp
    obtain ⟨_, _, c⟩ := hsp p _ e
    have := c q (by omega)
    rw [← this]
    unfold nx
    rw [List.getD_eq_getElem?_getD (l := sp2), e]
    rfl
  · have hpb : p < bs.length := by omega
    rw [List.getD_eq_getElem?_getD, List.getElem?_map, List.getElem?_eq_getElem hpb, List.getD_eq_getElem?_getD (l := bs), List.getElem?_eq_getElem hpb]
    rfl
end
end Mi

namespace Mi
open PySem L2
local macro_rules | `(tactic| walk_at "gl") => `(tactic| first
  | assumption
  | (refine Own.atL (h0 := ?_) (L := ?_) ?_ 0 ?_; rotate_left; rotate_left; assumption; rfl)
  | (refine Own.atL (h0 := ?_) (L := ?_) ?_ 1 ?_; rotate_left; rotate_left; assumption; rfl)
  | (refine Own.atL (h0 := ?_) (L := ?_) ?_ 2 ?_; rotate_left; rotate_left; assumption; rfl)
  | (refine Own.atL (h0 := ?_) (L := ?_) ?_ 3 ?_; rotate_left; rotate_left; assumption; rfl)
  | (refine Own.atL (h0 := ?_) (L := ?_) ?_ 4 ?_; rotate_left; rotate_left; assumption; rfl)
  | (refine Own.atL (h0 := ?_) (L := ?_) ?_ 5 ?_; rotate_left; rotate_left; assumption; rfl)
  | (refine Own.atL (h0 := ?_) (L := ?_) ?_ 6 ?_; rotate_left; rotate_left; assumption; rfl)
  | (refine Own.atL (h0 := ?_) (L := ?_) ?_ 7 ?_; rotate_left; rotate_left; assumption; rfl)
  | (refine Own.atL (h0 := ?_) (L := ?_) ?_ 8 ?_; rotate_left; rotate_left; assumption; rfl)
  | (refine Own.atL (h0 := ?_) (L := ?_) ?_ 9 ?_; rotate_left; rotate_left; assumption; rfl)
  | (refine Own.getL (h0 := ?_) (L := ?_) ?_ ?_; rotate_left; rotate_left; assumption; assumption))
local macro_rules | `(tactic| walk_at "il") => `(tactic| first
  | (refine Own.isL (h0 := ?_) (L := ?_) (l := ?_) ?_ 0 ?_; rotate_left; rotate_left; rotate_left; assumption; rfl)
  | (refine Own.isL (h0 := ?_) (L := ?_) (l := ?_) ?_ 1 ?_; rotate_left; rotate_left; rotate_left; assumption; rfl)
  | (refine Own.isL (h0 := ?_) (L := ?_) (l := ?_) ?_ 2 ?_; rotate_left; rotate_left; rotate_left; assumption; rfl)
  | (refine Own.isL (h0 := ?_) (L := ?_) (l := ?_) ?_ 3 ?_; rotate_left; rotate_left; rotate_left; assumption; rfl)
  | (refine Own.isL (h0 := ?_) (L := ?_) (l := ?_) ?_ 4 ?_; rotate_left; rotate_left; rotate_left; assumption; rfl)
  | (refine Own.isL (h0 := ?_) (L := ?_) (l := ?_) ?_ 5 ?_; rotate_left; rotate_left; rotate_left; assumption; rfl)
  | (refine Own.isL (h0 := ?_) (L := ?_) (l := ?_) ?_ 6 ?_; rotate_left; rotate_left; rotate_left; assumption; rfl)
  | (refine Own.isL (h0 := ?_) (L := ?_) (l := ?_) ?_ 7 ?_; rotate_left; rotate_left; rotate_left; assumption; rfl)
  | (refine Own.isL (h0 := ?_) (L := ?_) (l := ?_) ?_ 8 ?_; rotate_left; rotate_left; rotate_left; assumption; rfl)
  | (refine Own.isL (h0 := ?_) (L := ?_) (l := ?_) ?_ 9 ?_; rotate_left; rotate_left; rotate_left; assumption; rfl))
local macro_rules | `(tactic| walk_at "bd") => `(tactic| first | assumption | omega | (simp; done) | (simp; omega) | (simp [*]; done) | (simp [*]; omega))
local macro_rules | `(tactic| walk_at "w") => `(tactic| first
  | with_reducible refine w_seq ?_
  | with_reducible refine w_asg ?_
  | with_reducible refine w_cons ?_
  | with_reducible refine w_nil ?_
  | with_reducible refine w_c ?_
  | ((with_reducible refine w_var (d := ?_) ?_ ?_); rotate_left; rfl)
  | with_reducible refine w_bin ?_
  | with_reducible refine w_call ?_
  | with_reducible refine w_if ?_
  | with_reducible refine w_B ?_
  | with_reducible refine w_unB ?_
  | with_reducible refine w_ret ?_
  | with_reducible refine w_drop ?_
  | with_reducible refine w_skip ?_
  | with_reducible refine w_eq (dAdd_int _ _ _) ?_
  | with_reducible refine w_eq (dSub_int _ _ _) ?_
  | with_reducible refine w_eq (dEq_int _ _ _) ?_
  | with_reducible refine w_eq (dEq_str _ _ _) ?_
  | with_reducible refine w_eq (dNe_strs _ _ _) ?_
  | with_reducible refine w_eq (dEq_bls _ _ _) ?_
  | with_reducible refine w_eq (dNe_bls _ _ _) ?_
  | with_reducible refine w_eq (dLt_int _ _ _) ?_
  | with_reducible refine w_eq (dLe_int _ _ _) ?_
  | with_reducible refine w_eq (dGt_int _ _ _) ?_
  | with_reducible refine w_eq (dGe_int _ _ _) ?_
  | with_reducible refine w_eq (dNe_int _ _ _) ?_
  | ((with_reducible refine w_mod ?_ ?_); (first | assumption | decide | omega))
  | ((with_reducible refine w_fdiv ?_ ?_); (first | assumption | decide | omega))
  | ((with_reducible refine w_mulS ?_ ?_); (first | decide | omega))
  | ((with_reducible refine w_addS ?_ ?_); (first | assumption | decide | omega))
  | ((with_reducible refine w_lenS ?_ ?_); (first | assumption | decide | omega))
  | ((with_reducible refine w_slS ?_ ?_); (first | assumption | decide | omega))
  | with_reducible refine w_lenTm ?_
  | with_reducible refine w_eq (dLen_tup _ _) ?_
  | with_reducible refine w_eq (dSl_tup _ _ _ _) ?_
  | with_reducible refine w_eq (dMax_ev _ _ _) ?_
  | with_reducible refine w_eq (dMin_ev _ _ _) ?_
  | with_reducible refine w_eq (dAbs_ev _ _) ?_
  | with_reducible refine w_not ?_
  | with_reducible refine w_and ?_
  | with_reducible refine w_or ?_
  | with_reducible refine br_n ?_
  | with_reducible refine br_tt ?_
  | with_reducible refine br_ff ?_
  | ((with_reducible refine br_dt ?_ ?_); (first | assumption | omega | rfl))
  | ((with_reducible refine br_df ?_ ?_); (first | assumption | omega))
  | with_reducible refine w_tup ?_
  | ((with_reducible refine w_toTup ?_ ?_); exact (by simp))
  | with_reducible refine w_lst ?_
  | with_reducible refine w_lc ?_
  | with_reducible refine w_for ?_
  | with_reducible refine w_range1 ?_
  | with_reducible refine w_range2 ?_
  | ((with_reducible refine w_dR1 ?_ ?_); (first | decide | omega))
  | ((with_reducible refine w_dR2 ?_ ?_); (first | decide | omega))
  | with_reducible refine w_iter ?_
  | with_reducible refine w_eq (iter1_tup _ _) ?_
  | with_reducible refine w_eq (iter1_str _ _) ?_
  | with_reducible refine w_sl ?_
  | with_reducible refine w_no ?_
  | with_reducible refine w_some ?_
  | with_reducible refine w_unI ?_
  | with_reducible refine w_meth ?_
  | with_reducible refine w_isi ?_
  | with_reducible refine w_zip ?_
  | with_reducible refine w_ifE ?_
  | with_reducible refine w_andV ?_
  | with_reducible refine w_orV ?_
  | with_reducible refine w_notV ?_
  | with_reducible refine w_andK ?_
  | with_reducible refine w_orK ?_
  | with_reducible refine w_notK ?_
  | with_reducible refine w_revL ?_
  | with_reducible refine w_listRg1 ?_
  | with_reducible refine w_tindex ?_
  | with_reducible refine w_setIx ?_
  | with_reducible refine w_un ?_
  | with_reducible refine w_rev1 ?_
  | with_reducible refine w_rev2 ?_
  | with_reducible refine w_chain ?_
  | with_reducible refine w_chK ?_
  | with_reducible refine w_retN ?_
  | with_reducible refine w_brk ?_
  | with_reducible refine w_cont ?_
  | with_reducible refine w_asgT ?_
  | with_reducible refine w_eq (isi_str_str _ _) ?_
  | with_reducible refine w_eq (isi_int_int _ _) ?_
  | with_reducible refine w_eq (isi_tup_tup _ _) ?_
  | with_reducible refine w_eq (isi_bool_int _ _) ?_
  | with_reducible refine w_eq (isi_str_int _ _) ?_
  | ((with_reducible refine w_lenLm (α := ?_) (f := ?_) (l := ?_) ?_ ?_); rotate_left; rotate_left; rotate_left; walk_at "gl")
  | ((with_reducible refine w_lenL (l := ?_) ?_ ?_); rotate_left; walk_at "gl")
  | ((with_reducible refine w_iterL (l := ?_) ?_ ?_); rotate_left; walk_at "gl"; dsimp only)
  | ((with_reducible refine w_tupL (l := ?_) ?_ ?_); rotate_left; walk_at "gl")
  | ((with_reducible refine w_ixT (d := ?_) ?_ ?_); rotate_left; (first | with_reducible assumption | rfl))
  | ((with_reducible refine w_ixL (l := ?_) (d := ?_) ?_ ?_ ?_); rotate_left; rotate_left; walk_at "gl"; (first | with_reducible assumption | rfl))
  | ((with_reducible refine w_addT ?_ ?_); walk_at "bd")
  | ((with_reducible refine ⟨?_, ?_⟩); (with_reducible (show isListD (.ref _) _ = true)); walk_at "il")
  | with_reducible refine w_tryK ?_
  | with_reducible refine w_raise ?_
  | with_reducible refine w_raise0 ?_
  | with_reducible refine w_isX ?_
  | ((with_reducible refine w_isXK (k := ?_) ?_ ?_); rotate_left; (first | with_reducible exact lkA | (apply lkB; decide +kernel; exact lkA) | (apply lkB; decide +kernel; apply lkB; decide +kernel; exact lkA) | (apply lkB; decide +kernel; apply lkB; decide +kernel; apply lkB; decide +kernel; exact lkA)))
  | with_reducible refine w_xf ?_
  | ((with_reducible refine w_xfK ?_ ?_ ?_); (exact List.mem_cons_self); (decide))
  | with_reducible refine w_eq (isN_xo _) ?_
  | with_reducible refine w_eq (dNeg_int _ _) ?_)
local macro_rules | `(tactic| walk_at "go") => `(tactic| (repeat (walk_at "w")); try dsimp only [List.set])
local macro_rules | `(tactic| walk_at "fn") => `(tactic| ((refine w_fun ?_); simp only [startD, List.map_cons, List.map_nil, List.reduceReplicate, Nat.reduceSub, List.cons_append, List.nil_append]; walk_at "go"))
local macro_rules | `(tactic| walk_at "w") => `(tactic| first
  | with_reducible refine w_eq (notN_non _) ?_
  | with_reducible refine w_eq (notN_int _ _) ?_
  | with_reducible refine w_eq (isN_non _) ?_
  | with_reducible refine w_eq (isN_int _ _) ?_)
theorem GOk.mono54 {n m : Nat} {fs ns : List Str} {st : List Int} {sp : List (List Int)} {mk : List Int} (g : GOk n fs ns st sp mk) (h : n ≤ m) : GOk m fs ns st sp mk := ⟨g.n1, Nat.le_trans g.nm h, g.row, g.stl, g.stv, g.mkl, g.mkv⟩
theorem cut_mid54 (l : List D) {s e : Nat} (hs : s ≤ e) (he : e ≤ l.length) : cutD l (some (s : Int)) (some (e : Int)) = (l.drop s).take (e - s) := by
  unfold cutD
  rw [HT.sIx_nat, HT.sIx_nat]
  have h1 : min s l.length = s := by omega
  have h2 : min e l.length = e := by omega
  try rw [h1]
  try rw [h2]
/-- a machine as the laws of merged machines draw it -/
structure Mok54 (N : Nat) (fs ns : List Str) (st : List Int) (sp : List (List Int)) (mk : List Int) : Prop where
  g : GOk N fs ns st sp mk
  nd : ns.Nodup
  nn : ∀ x ∈ ns, Nm x
  nl : ns.length ≤ 3
  fd : fs.Nodup
  fn : ∀ x ∈ fs, Nm x
  fl : fs.length ≤ 3
theorem sort_mem54 {x : Str} {ys : List Str} : x ∈ sortS ys ↔ x ∈ ys := (List.mergeSort_perm ys leS).mem_iff
theorem sort_len54 (ys : List Str) : (sortS ys).length = ys.length := (List.mergeSort_perm ys leS).length_eq
theorem sort_nd54 {ys : List Str} : (sortS ys).Nodup ↔ ys.Nodup := (List.mergeSort_perm ys leS).nodup_iff
theorem k_one54 {zs : List Int} (hb : ∀ z ∈ zs, Cell z) (hn : zs.length ≤ 63) {h : MH} {i : Nat} (g0 : getL h i = some (zs.map D.int)) :
    Sat (m_one_9da12 [.ref i] h) (fun d h' => h <+: h' ∧ ∃ fs ns st sp mk, d = gmD fs ns st sp mk ∧ Mok54 22 fs ns st sp mk) noX := by
  walk_at "fn"
  refine (c_cell_at hb g0 (by decide)).mono ?_
  rintro d h1 ⟨rfl, c0, rfl, hc0⟩
  walk_at "go"
  refine (n_names54 (by decide)).mono ?_
  rintro d h1 ⟨iW, ws, rfl, o1, hwl, hwd, hwn⟩
  walk_at "go"
  refine (c_cell_at hb (o1.getL g0) (by decide)).mono ?_
  rintro d h2 ⟨rfl, c1, rfl, hc1⟩
  walk_at "go"
  refine w_pow (n := 6) (by decide) ?_
  walk_at "go"
  have hkm := mod_in c1 (n := 10 ^ 6) (by decide)
  generalize c1 % 10 ^ 6 = kd at *
  have h4 := mod_in kd (n := 4) (by decide)
  walk_at "go"
  have h32 := mod_in (kd / 32) (n := 2) (by decide)
  have h64 := mod_in (kd / 64) (n := 3) (by decide)
  have h256 := mod_in (kd / 256) (n := 4) (by decide)
  refine br_mid (fun ρ h' => h' = h2 ∧ ∃ m : Int, ρ = [some (.ref i), some (.ref iW), some (.int kd), some (.int m), none, none, none] ∧ 1 ≤ m ∧ m ≤ 5) ?_ ?_
  · refine br_d (fun c => ?_) (fun c => ?_)
    · walk_at "go"
      exact ⟨rfl, _, rfl, by omega, by omega⟩
    · walk_at "go"
      exact ⟨rfl, _, rfl, by omega, by omega⟩
  rintro ρ h2' ⟨rfl, m, rfl, hm⟩
  have gW := o1.atL 0 rfl
  have hw5 : ws.length = 5 := by omega
  walk_at "go"
  refine o_sl o1 gW fun jf h3 o3 => ?_
  obtain ⟨a, ea, ha⟩ : ∃ a : Nat, kd / 64 % 3 = (a : Int) ∧ a ≤ 2 := ⟨(kd / 64 % 3).toNat, by omega, by omega⟩
  rw [ea] at o3
  rw [show (3 : Int) + (a : Int) = ((3 + a : Nat) : Int) by omega, show (3 : Int) = ((3 : Nat) : Int) from rfl, cut_mid54 _ (by omega) (by rw [List.length_map]; omega), ← List.map_drop, ← List.map_take] at o3
  have hmm : m * m ≤ 25 := by
    have := Int.mul_le_mul (a := m) (b := m) (c := 5) (d := 5) (by omega) (by omega) (by omega) (by omega)
    omega
  have hmm0 : 0 ≤ m * m := Int.mul_nonneg (by omega) (by omega)
  walk_at "go"
  refine (k_numbers54 hb hn (o3.getL g0) (by decide) (by omega)).mono ?_
  rintro d h4' ⟨jx, xs, rfl, o4', hxl, hxs⟩
  have o4 := o3.trans o4'
  have hx0 : ∀ x ∈ xs, 0 ≤ x := fun x hx => (hxs x hx).1
  walk_at "go"
  obtain ⟨b, eb, hb3⟩ : ∃ b : Nat, kd / 256 % 4 = (b : Int) ∧ b ≤ 3 := ⟨(kd / 256 % 4).toNat, by omega, by omega⟩
  rw [eb]
  have fF : ∀ k : Nat, k ≤ 2 → ((ws.drop 3).take k).Nodup ∧ (∀ x ∈ (ws.drop 3).take k, Nm x) ∧ ((ws.drop 3).take k).length = k := fun k hk =>
    ⟨((List.take_sublist _ _).trans (List.drop_sublist _ _)).nodup hwd, fun x hx => hwn x (List.mem_of_mem_drop (List.mem_of_mem_take hx)), by rw [List.length_take, List.length_drop]; omega⟩
  obtain ⟨f1, f2, f3⟩ := fF a ha
  rw [Nat.add_sub_cancel_left] at o4
  generalize (ws.drop 3).take a = fs at *
  refine o_sl o4 (o4.atL 2 rfl) fun jc h5 o5 => ?_
  rw [cut_to54 _ (by rw [List.length_map]; omega), ← List.map_take] at o5
  walk_at "go"
  refine o_sortS o5 (o5.atL 0 rfl) (by rw [List.length_take]; omega) fun jn h6 o6 => ?_
  have n1 : (sortS (ws.take b)).length ≤ 3 := by rw [sort_len54, List.length_take]; omega
  have n2 : (sortS (ws.take b)).Nodup := sort_nd54.mpr ((List.take_sublist _ _).nodup hwd)
  have n3 : ∀ x ∈ sortS (ws.take b), Nm x := fun x hx => hwn x (List.mem_of_mem_take (sort_mem54.mp hx))
  generalize sortS (ws.take b) = N at *
  walk_at "go"
  refine (k_machine54 (fs := fs) (ns := N) hx0 (o6.atL 2 rfl) ⟨hm.1, by omega⟩ (o6.atL 3 rfl) (o6.atL 0 rfl) (by omega) (by omega) (by omega) (by omega)).mono ?_
  rintro d h7 ⟨p7, st, sp, mk, rfl, g7, hsl⟩
  have o7 := o6.ext p7
  walk_at "go"
  refine br_mid (fun ρ h' => ∃ fs st sp mk, ρ = [some (.ref i), some (.ref iW), some (.int kd), some (.int m), some (.ref jf), some (.ref jx), some (gmD fs N st sp mk)] ∧ h7 <+: h' ∧ Mok54 8 fs N st sp mk) ?_ ?_
  · refine br_d (fun c => ?_) (fun c => ?_)
    · obtain ⟨z1, a1, hz1⟩ := at_of54 (P := fun z => 0 ≤ z) hx0 (i := 50) (by decide) (by omega)
      obtain ⟨z2, a2, hz2⟩ := at_of54 (P := fun z => 0 ≤ z) hx0 (i := 51) (by decide) (by omega)
      obtain ⟨z3, a3, hz3⟩ := at_of54 (P := fun z => 0 ≤ z) hx0 (i := 52) (by decide) (by omega)
      have gx := o7.atL 2 rfl
      have m1 := mod_in z1 (n := m) (by omega)
      have m2 := mod_in z2 (n := m) (by omega)
      walk_at "go"
      rw [show z1 % m = ((z1 % m).toNat : Int) by omega, show z2 % m = ((z2 % m).toNat : Int) by omega]
      refine (k_like54 (fs := fs) (ns := N) g7 (by decide) (p := (z1 % m).toNat) (q := (z2 % m).toNat) (by omega) (by omega)).mono ?_
      rintro d h8 ⟨p8, sp2, mk2, rfl, g8, hl8⟩
      exact ⟨fs, st, sp2, mk2, rfl, p8, ⟨g8, n2, n3, n1, f1, f2, by omega⟩⟩
    · walk_at "go"
      exact ⟨fs, st, sp, mk, rfl, List.prefix_rfl, ⟨g7, n2, n3, n1, f1, f2, by omega⟩⟩
  clear g7 hsl st sp mk
  rintro ρ h8 ⟨fs2, st, sp, mk, rfl, p8, M8⟩
  have o8 := o7.ext p8
  have h3072 := mod_in (kd / 256) (n := 4) (by decide)
  walk_at "go"
  refine br_mid (fun ρ h' => ∃ fs N st sp mk, ρ = [some (.ref i), some (.ref iW), some (.int kd), some (.int m), some (.ref jf), some (.ref jx), some (gmD fs N st sp mk)] ∧ h8 <+: h' ∧ Mok54 20 fs N st sp mk) ?_ ?_
  · refine br_d (fun c => ?_) (fun c => ?_)
    · walk_at "go"
      refine o_sl (Own.nil h8) (o8.atL 4 rfl) fun jf2 h9 o9 => ?_
      rw [show (3 : Int) = ((3 : Nat) : Int) from rfl, show (4 : Int) = ((4 : Nat) : Int) from rfl, cut_mid54 _ (by omega) (by rw [List.length_map]; omega), ← List.map_drop, ← List.map_take] at o9
      obtain ⟨q1, q2, q3⟩ := fF 1 (by decide)
      rw [show 4 - 3 = 1 from rfl] at o9
      generalize (ws.drop 3).take 1 = F1 at *
      walk_at "go"
      rw [eb]
      refine o_sl o9 (o9.getL (o8.atL 4 rfl)) fun jc2 h10 o10 => ?_
      rw [cut_to54 _ (by rw [List.length_map]; omega), ← List.map_take] at o10
      walk_at "go"
      refine o_sortS o10 (o10.atL 0 rfl) (by rw [List.length_take]; omega) fun jn2 h11 o11 => ?_
      have n1' : (sortS (ws.take b)).length ≤ 3 := by rw [sort_len54, List.length_take]; omega
      have n2' : (sortS (ws.take b)).Nodup := sort_nd54.mpr ((List.take_sublist _ _).nodup hwd)
      have n3' : ∀ x ∈ sortS (ws.take b), Nm x := fun x hx => hwn x (List.mem_of_mem_take (sort_mem54.mp hx))
      generalize sortS (ws.take b) = N2 at *
      walk_at "go"
      refine (k_counter54 (fs := F1) (ns := N2) hx0 ⟨by omega, by omega⟩ (o11.getL (o8.atL 2 rfl)) (o11.atL 2 rfl) (o11.atL 0 rfl) ⟨by omega, by omega⟩ (by omega)).mono ?_
      rintro d h12 ⟨p12, st3, sp3, mk3, rfl, g12⟩
      exact ⟨F1, N2, st3, sp3, mk3, rfl, o11.pre.trans p12, ⟨g12, n2', n3', n1', q1, q2, by omega⟩⟩
    · walk_at "go"
      exact ⟨fs2, N, st, sp, mk, rfl, List.prefix_rfl, ⟨M8.g.mono54 (by decide), M8.nd, M8.nn, M8.nl, M8.fd, M8.fn, M8.fl⟩⟩
  clear M8 st sp mk
  rintro ρ h9 ⟨fs3, N3, st, sp, mk, rfl, p9, M9⟩
  have o9 := o8.ext p9
  have g9 := M9.g
  walk_at "go"
  refine (c_cell_at hb (o9.getL g0) (by decide)).mono ?_
  rintro d h10 ⟨rfl, c2, rfl, hc2⟩
  walk_at "go"
  refine br_mid (fun ρ h' => ∃ fs N st sp mk, ρ = [some (.ref i), some (.ref iW), some (.int kd), some (.int m), some (.ref jf), some (.ref jx), some (gmD fs N st sp mk)] ∧ h10 <+: h' ∧ Mok54 22 fs N st sp mk) ?_ ?_
  · refine br_d (fun c => ?_) (fun c => ?_)
    · unfold gmD
      walk_at "go"
      refine (c_cell_at hb (o9.getL g0) (by decide)).mono ?_
      rintro d h11 ⟨rfl, c2', rfl, hc2'⟩
      walk_at "go"
      have hn9 := g9.nm
      have hk9 := g9.mkl
      rw [show (((mk.length : Nat) : Int) + 2) = ((sp.length + 2 : Nat) : Int) by omega]
      refine (k_twins54 (fs := fs3) (ns := N3) g9 (by decide) hx0 ⟨by omega, by omega⟩ (o9.atL 2 rfl) (many := sp.length + 2) ⟨by omega, by omega⟩ (by have := M9.nl; omega)).mono ?_
      rintro d h12 ⟨p12, st2, sp2, mk2, bs, rfl, g12, hl12, _⟩
      exact ⟨fs3, N3, st2, sp2, mk2, rfl, p12, ⟨g12.mono54 (by omega), M9.nd, M9.nn, M9.nl, M9.fd, M9.fn, M9.fl⟩⟩
    · walk_at "go"
      exact ⟨fs3, N3, st, sp, mk, rfl, List.prefix_rfl, ⟨M9.g.mono54 (by decide), M9.nd, M9.nn, M9.nl, M9.fd, M9.fn, M9.fl⟩⟩
  rintro ρ h11 ⟨fs4, N4, st4, sp4, mk4, rfl, p11, M11⟩
  walk_at "go"
  exact ⟨o9.pre.trans p11, fs4, N4, st4, sp4, mk4, rfl, M11⟩
end Mi

namespace Mi
open PySem L2
/-! what comes, what stands in a form: plain -/
inductive Come (st : List Int) (sp : List (List Int)) : Nat → Prop
  | start {s : Nat} : (s : Int) ∈ st → Come st sp s
  | step {p q : Nat} : Come st sp p → Come st sp q → Come st sp (nx sp p q)
theorem SInv.come {st : List Int} {sp : List (List Int)} {t : Tb} (i : SInv st sp t) (c : closed sp t) (s : Nat) : (∃ z, t[s]? = some (some z)) ↔ Come st sp s := by
  constructor
  · rintro ⟨z, hz⟩
    have : ∀ n z s : Nat, z ≤ n → t[s]? = some (some z) → Come st sp s := by
      intro n
      induction n with
      | zero =>
        intro z s hn hz
        have := (i.pos s z hz).1
        omega
      | succ n ih =>
        intro z s hn hz
        rcases i.sup s z hz with ⟨_, h⟩ | ⟨p, q, a, b, e1, e2, e3, e4⟩
        · exact .start h
        · have ha := (i.pos p a e1).1
          have hb := (i.pos q b e2).1
          rw [← e3]
          exact .step (ih a p (by omega) e1) (ih b q (by omega) e2)
    exact this z z s (Nat.le_refl _) hz
  · intro h
    induction h with
    | start h => exact ⟨1, i.sta _ h⟩
    | step _ _ h1 h2 =>
      obtain ⟨a, ha⟩ := h1
      obtain ⟨b, hb⟩ := h2
      obtain ⟨d, hd, _⟩ := c _ _ a b ha hb
      exact ⟨d, hd⟩
/-- how many are true -/
def cT : List Bool → Nat
  | [] => 0
  | true :: t => cT t + 1
  | false :: t => cT t
/-- what may yet come to have the form; what stands in it -/
inductive Ah (C : Nat → Prop) (sp : List (List Int)) (bit : Nat → Prop) : Nat → Prop
  | base {s : Nat} : C s → bit s → Ah C sp bit s
  | app {p q : Nat} : C p → C q → Ah C sp bit (nx sp p q) → Ah C sp bit p
  | put {p q : Nat} : C p → C q → Ah C sp bit (nx sp p q) → Ah C sp bit q
def Fo (C : Nat → Prop) (sp : List (List Int)) (bit : Nat → Prop) (s : Nat) : Prop := C s ∧ bit s ∨ ∃ p, C p ∧ C s ∧ Ah C sp bit (nx sp p s)
section
variable {C : Nat → Prop} {sp : List (List Int)} {bit : Nat → Prop}
theorem Fo.ah {s : Nat} (h : Fo C sp bit s) : Ah C sp bit s := by
  rcases h with ⟨h1, h2⟩ | ⟨p, h1, h2, h3⟩
  · exact .base h1 h2
  · exact .put h1 h2 h3
theorem Fo.c {s : Nat} (h : Fo C sp bit s) : C s := by
  rcases h with ⟨h1, h2⟩ | ⟨p, h1, h2, h3⟩
  · exact h1
  · exact h2
/-- both lists so far -/
structure AF (C : Nat → Prop) (sp : List (List Int)) (bit : Nat → Prop) (a f : List Bool) : Prop where
  la : a.length = sp.length
  lf : f.length = sp.length
  ba : ∀ s, C s → bit s → a[s]? = some true
  bf : ∀ s, C s → bit s → f[s]? = some true
  sa : ∀ s : Nat, a[s]? = some true → Ah C sp bit s
  sf : ∀ s : Nat, f[s]? = some true → Fo C sp bit s
  fa : ∀ s : Nat, f[s]? = some true → a[s]? = some true
def okA (C : Nat → Prop) (sp : List (List Int)) (a f : List Bool) (p q : Nat) : Prop := C p → C q → a[nx sp p q]? = some true → a[p]? = some true ∧ f[q]? = some true
theorem set_mono {l : List Bool} {s r : Nat} (h : l[r]? = some true) : (l.set s true)[r]? = some true := by
  rw [List.getElem?_set]
  have := (List.getElem?_eq_some_iff.mp h).1
  split
  · rename_i e; subst e; simp [this]
  · exact h
theorem set_hit {l : List Bool} {s : Nat} (h : s < l.length) : (l.set s true)[s]? = some true := by
  rw [List.getElem?_set]; simp [h]
theorem set_back {l : List Bool} {s r : Nat} (h : (l.set s true)[r]? = some true) : r = s ∨ l[r]? = some true := by
  rw [List.getElem?_set] at h
  split at h
  · rename_i e; exact .inl e.symm
  · exact .inr h
theorem AF.upd {a f : List Bool} {p q : Nat} (i : AF C sp bit a f) (hp : p < sp.length) (hq : q < sp.length) (cp : C p) (cq : C q) (h : a[nx sp p q]? = some true) : AF C sp bit ((a.set p true).set q true) (f.set q true) := by
  have hah := i.sa _ h
  refine ⟨by simp [i.la], by simp [i.lf], fun s h1 h2 => set_mono (set_mono (i.ba s h1 h2)), fun s h1 h2 => set_mono (i.bf s h1 h2), fun s hs => ?_, fun s hs => ?_, fun s hs => ?_⟩
  · rcases set_back hs with rfl | hs
    · exact .put cp cq hah
    rcases set_back hs with rfl | hs
    · exact .app cp cq hah
    · exact i.sa s hs
  · rcases set_back hs with rfl | hs
    · exact .inr ⟨p, cp, cq, hah⟩
    · exact i.sf s hs
  · rcases set_back hs with rfl | hs
    · exact set_hit (by simp [i.la, hq])
    · exact set_mono (set_mono (i.fa s hs))
theorem AF.done {a f : List Bool} (i : AF C sp bit a f) (h : ∀ p q, okA C sp a f p q) (s : Nat) : f[s]? = some true ↔ Fo C sp bit s := by
  refine ⟨i.sf s, fun hs => ?_⟩
  have ha : ∀ s, Ah C sp bit s → a[s]? = some true := by
    intro s hs
    induction hs with
    | base h1 h2 => exact i.ba _ h1 h2
    | app h1 h2 _ ih => exact (h _ _ h1 h2 ih).1
    | put h1 h2 _ ih => exact i.fa _ (h _ _ h1 h2 ih).2
  rcases hs with ⟨h1, h2⟩ | ⟨p, h1, h2, h3⟩
  · exact i.bf s h1 h2
  · exact (h p s h1 h2 (ha _ h3)).2
/-- what the law finds, going up -/
def nxt (sp : List (List Int)) (x : Nat) (w : Bool) (o : Nat) : Nat := if w then nx sp o x else nx sp x o
def vl (C : Nat → Prop) (sp : List (List Int)) (bit : Nat → Prop) (st : Nat) (e : Nat × Bool) : Prop := C e.1 ∧ ((if e.2 then Fo C sp bit e.1 else ∃ o, C o ∧ Ah C sp bit (nx sp e.1 o)) → Fo C sp bit st)
end
end Mi

namespace Mi
open PySem L2
/-! ### classes, each told by its least -/
section
variable {α : Type} [DecidableEq α]
/-- the least that has the same key -/
def lea (key : Nat → α) (p : Nat) : Nat := ((List.range p).find? fun x => decide (key x = key p)).getD p
theorem lea_spec (key : Nat → α) (p : Nat) : lea key p ≤ p ∧ key (lea key p) = key p ∧ ∀ x, x < lea key p → key x ≠ key p := by
  unfold lea
  cases e : (List.range p).find? fun x => decide (key x = key p) with
  | none =>
    refine ⟨Nat.le_refl _, rfl, fun x hx h => ?_⟩
    have := List.find?_eq_none.mp e x (List.mem_range.mpr hx)
    simp at this
    exact this h
  | some y =>
    have h1 := List.find?_some e
    have h2 := List.mem_range.mp (List.mem_of_find?_eq_some e)
    refine ⟨Nat.le_of_lt h2, of_decide_eq_true h1, fun x hx h => ?_⟩
    obtain ⟨e1, as, bs, e2, e3⟩ := List.find?_eq_some_iff_append.mp e
    have hl : as.length = y := by
      have : (List.range p)[as.length]? = (as ++ y :: bs)[as.length]? := by rw [e2]
      rw [List.getElem?_append_right (Nat.le_refl _), Nat.sub_self, List.getElem?_range (by
        have := congrArg List.length e2
        simp at this
        omega)] at this
      simpa using this
    have hx2 : x ∈ as := by
      have hxl : x < as.length := by
        show x < as.length
        have hx' : x < y := hx
        omega
      have : as[x]? = some x := by
        have : (List.range p)[x]? = (as ++ y :: bs)[x]? := by rw [e2]
        rw [List.getElem?_append_left hxl, List.getElem?_range (by omega)] at this
        exact this.symm
      exact List.mem_of_getElem? this
    have := e3 x hx2
    simp at this
    exact this h
theorem lea_eq {key : Nat → α} {p q : Nat} (h : key p = key q) : lea key p = lea key q := by
  obtain ⟨a1, a2, a3⟩ := lea_spec key p
  obtain ⟨b1, b2, b3⟩ := lea_spec key q
  rcases Nat.lt_trichotomy (lea key p) (lea key q) with c | c | c
  · exact absurd (a2.trans h) (b3 _ c)
  · exact c
  · exact absurd (b2.trans h.symm) (a3 _ c)
theorem lea_iff {key : Nat → α} {p q : Nat} : lea key p = lea key q ↔ key p = key q :=
  ⟨fun h => by rw [← (lea_spec key p).2.1, ← (lea_spec key q).2.1, h], lea_eq⟩
theorem lea_head {key : Nat → α} (p : Nat) : lea key (lea key p) = lea key p := lea_eq (lea_spec key p).2.1
end
/-- the key of a state by the classes so far -/
def keyF (sp : List (List Int)) (P : List Nat) (c : Nat → Nat) (p : Nat) : List Nat := c p :: P.flatMap fun r => [c (nx sp p r), c (nx sp r p)]
/-- the classes of the k-th round -/
def cls (sp : List (List Int)) (mk : List Int) (P : List Nat) : Nat → Nat → Nat
  | 0 => lea fun p => mk.getD p 0
  | k + 1 => lea (keyF sp P (cls sp mk P k))
section
variable {sp : List (List Int)} {mk : List Int} {P : List Nat}
theorem cls_le (k p : Nat) : cls sp mk P k p ≤ p := by cases k <;> exact (lea_spec _ p).1
theorem cls_head (k p : Nat) : cls sp mk P k (cls sp mk P k p) = cls sp mk P k p := by cases k <;> exact lea_head p
theorem keyF_iff {c : Nat → Nat} {p q : Nat} : keyF sp P c p = keyF sp P c q ↔ c p = c q ∧ ∀ r ∈ P, c (nx sp p r) = c (nx sp q r) ∧ c (nx sp r p) = c (nx sp r q) := by
  unfold keyF
  rw [List.cons.injEq]
  refine and_congr_right fun _ => ?_
  induction P with
  | nil => simp
  | cons r P ih =>
    rw [List.flatMap_cons, List.flatMap_cons]
    simp only [List.cons_append, List.nil_append, List.cons.injEq]
    rw [ih]
    constructor
    · rintro ⟨a, b, c⟩ x hx
      rcases List.mem_cons.mp hx with rfl | hx
      · exact ⟨a, b⟩
      · exact c x hx
    · intro h
      exact ⟨(h r List.mem_cons_self).1, (h r List.mem_cons_self).2, fun x hx => h x (List.mem_cons_of_mem _ hx)⟩
theorem cls_step {k p q : Nat} : cls sp mk P (k + 1) p = cls sp mk P (k + 1) q ↔ cls sp mk P k p = cls sp mk P k q ∧ ∀ r ∈ P, cls sp mk P k (nx sp p r) = cls sp mk P k (nx sp q r) ∧ cls sp mk P k (nx sp r p) = cls sp mk P k (nx sp r q) := by
  show lea _ p = lea _ q ↔ _
  rw [lea_iff, keyF_iff]
theorem cls_mk {p q : Nat} : cls sp mk P 0 p = cls sp mk P 0 q ↔ mk.getD p 0 = mk.getD q 0 := lea_iff
theorem cls_down {k p q : Nat} (h : cls sp mk P k p = cls sp mk P k q) : ∀ j, j ≤ k → cls sp mk P j p = cls sp mk P j q := by
  induction k with
  | zero => intro j hj; rw [show j = 0 by omega]; exact h
  | succ k ih =>
    intro j hj
    rcases Nat.lt_or_ge k j with c | c
    · rw [show j = k + 1 by omega]; exact h
    · exact ih (cls_step.mp h).1 j c
/-- how many heads there are -/
def hds (sp : List (List Int)) (mk : List Int) (P : List Nat) (n k : Nat) : Nat := ((List.range n).filter fun p => decide (cls sp mk P k p = p)).length
theorem hds_le (n k : Nat) : hds sp mk P n k ≤ n := by
  unfold hds
  refine Nat.le_trans (List.length_filter_le _ _) ?_
  simp
theorem filter_lt54 {l : List Nat} {f g : Nat → Bool} (h : ∀ x ∈ l, f x = true → g x = true) {p : Nat} (hp : p ∈ l) (h1 : f p = false) (h2 : g p = true) : (l.filter f).length < (l.filter g).length := by
  induction l with
  | nil => simp at hp
  | cons a l ih =>
    have hle : ∀ l : List Nat, (∀ x ∈ l, f x = true → g x = true) → (l.filter f).length ≤ (l.filter g).length := by
      intro l h
      induction l with
      | nil => exact Nat.le_refl _
      | cons b l ih =>
        have := ih fun x hx => h x (List.mem_cons_of_mem _ hx)
        have hb := h b List.mem_cons_self
        rw [List.filter_cons, List.filter_cons]
        cases e : f b with
        | true => rw [hb e]; simp; omega
        | false => cases g b <;> simp <;> omega
    have hl := hle l fun x hx => h x (List.mem_cons_of_mem _ hx)
    rw [List.filter_cons, List.filter_cons]
    rcases List.mem_cons.mp hp with rfl | hp
    · rw [h1, h2]; simp; omega
    · have := ih (fun x hx => h x (List.mem_cons_of_mem _ hx)) hp
      have ha := h a List.mem_cons_self
      cases e : f a with
      | true => rw [ha e]; simp; omega
      | false => cases g a <;> simp <;> omega
theorem cls_stay {k p : Nat} (h : cls sp mk P k p = p) : cls sp mk P (k + 1) p = p := by
  have h1 := cls_le (sp := sp) (mk := mk) (P := P) (k + 1) p
  have h2 := cls_head (sp := sp) (mk := mk) (P := P) (k + 1) p
  have h3 := (cls_step.mp h2).1
  rw [h] at h3
  have := cls_le (sp := sp) (mk := mk) (P := P) k (cls sp mk P (k + 1) p)
  omega
theorem hds_lt {n k p : Nat} (hp : p < n) (h : cls sp mk P (k + 1) p ≠ cls sp mk P k p) : hds sp mk P n k < hds sp mk P n (k + 1) := by
  unfold hds
  have h1 := cls_le (sp := sp) (mk := mk) (P := P) (k + 1) p
  have h2 := cls_head (sp := sp) (mk := mk) (P := P) (k + 1) p
  have h3 := (cls_step.mp h2).1
  refine filter_lt54 (p := cls sp mk P (k + 1) p) (fun x _ e => decide_eq_true (cls_stay (of_decide_eq_true e))) (List.mem_range.mpr (by omega)) (decide_eq_false fun e => ?_) (decide_eq_true h2)
  rw [h3] at e
  exact h e.symm
/-- in the end nothing changes -/
def Stab (sp : List (List Int)) (mk : List Int) (P : List Nat) (n k : Nat) : Prop := ∀ p, p < n → cls sp mk P (k + 1) p = cls sp mk P k p
end
end Mi

namespace Mi
open PySem L2
local macro_rules | `(tactic| walk_at "gl") => `(tactic| first
  | assumption
  | (refine Own.atL (h0 := ?_) (L := ?_) ?_ 0 ?_; rotate_left; rotate_left; assumption; rfl)
  | (refine Own.atL (h0 := ?_) (L := ?_) ?_ 1 ?_; rotate_left; rotate_left; assumption; rfl)
  | (refine Own.atL (h0 := ?_) (L := ?_) ?_ 2 ?_; rotate_left; rotate_left; assumption; rfl)
  | (refine Own.atL (h0 := ?_) (L := ?_) ?_ 3 ?_; rotate_left; rotate_left; assumption; rfl)
  | (refine Own.atL (h0 := ?_) (L := ?_) ?_ 4 ?_; rotate_left; rotate_left; assumption; rfl)
  | (refine Own.atL (h0 := ?_) (L := ?_) ?_ 5 ?_; rotate_left; rotate_left; assumption; rfl)
  | (refine Own.atL (h0 := ?_) (L := ?_) ?_ 6 ?_; rotate_left; rotate_left; assumption; rfl)
  | (refine Own.atL (h0 := ?_) (L := ?_) ?_ 7 ?_; rotate_left; rotate_left; assumption; rfl)
  | (refine Own.atL (h0 := ?_) (L := ?_) ?_ 8 ?_; rotate_left; rotate_left; assumption; rfl)
  | (refine Own.atL (h0 := ?_) (L := ?_) ?_ 9 ?_; rotate_left; rotate_left; assumption; rfl)
  | (refine Own.getL (h0 := ?_) (L := ?_) ?_ ?_; rotate_left; rotate_left; assumption; assumption))
local macro_rules | `(tactic| walk_at "il") => `(tactic| first
  | (refine Own.isL (h0 := ?_) (L := ?_) (l := ?_) ?_ 0 ?_; rotate_left; rotate_left; rotate_left; assumption; rfl)
  | (refine Own.isL (h0 := ?_) (L := ?_) (l := ?_) ?_ 1 ?_; rotate_left; rotate_left; rotate_left; assumption; rfl)
  | (refine Own.isL (h0 := ?_) (L := ?_) (l := ?_) ?_ 2 ?_; rotate_left; rotate_left; rotate_left; assumption; rfl)
  | (refine Own.isL (h0 := ?_) (L := ?_) (l := ?_) ?_ 3 ?_; rotate_left; rotate_left; rotate_left; assumption; rfl)
  | (refine Own.isL (h0 := ?_) (L := ?_) (l := ?_) ?_ 4 ?_; rotate_left; rotate_left; rotate_left; assumption; rfl)
  | (refine Own.isL (h0 := ?_) (L := ?_) (l := ?_) ?_ 5 ?_; rotate_left; rotate_left; rotate_left; assumption; rfl)
  | (refine Own.isL (h0 := ?_) (L := ?_) (l := ?_) ?_ 6 ?_; rotate_left; rotate_left; rotate_left; assumption; rfl)
  | (refine Own.isL (h0 := ?_) (L := ?_) (l := ?_) ?_ 7 ?_; rotate_left; rotate_left; rotate_left; assumption; rfl)
  | (refine Own.isL (h0 := ?_) (L := ?_) (l := ?_) ?_ 8 ?_; rotate_left; rotate_left; rotate_left; assumption; rfl)
  | (refine Own.isL (h0 := ?_) (L := ?_) (l := ?_) ?_ 9 ?_; rotate_left; rotate_left; rotate_left; assumption; rfl))
local macro_rules | `(tactic| walk_at "bd") => `(tactic| first | assumption | omega | (simp; done) | (simp; omega) | (simp [*]; done) | (simp [*]; omega))
local macro_rules | `(tactic| walk_at "w") => `(tactic| first
  | with_reducible refine w_seq ?_
  | with_reducible refine w_asg ?_
  | with_reducible refine w_cons ?_
  | with_reducible refine w_nil ?_
  | with_reducible refine w_c ?_
  | ((with_reducible refine w_var (d := ?_) ?_ ?_); rotate_left; rfl)
  | with_reducible refine w_bin ?_
  | with_reducible refine w_call ?_
  | with_reducible refine w_if ?_
  | with_reducible refine w_B ?_
  | with_reducible refine w_unB ?_
  | with_reducible refine w_ret ?_
  | with_reducible refine w_drop ?_
  | with_reducible refine w_skip ?_
  | with_reducible refine w_eq (dAdd_int _ _ _) ?_
  | with_reducible refine w_eq (dSub_int _ _ _) ?_
  | with_reducible refine w_eq (dEq_int _ _ _) ?_
  | with_reducible refine w_eq (dEq_str _ _ _) ?_
  | with_reducible refine w_eq (dNe_strs _ _ _) ?_
  | with_reducible refine w_eq (dEq_bls _ _ _) ?_
  | with_reducible refine w_eq (dNe_bls _ _ _) ?_
  | with_reducible refine w_eq (dLt_int _ _ _) ?_
  | with_reducible refine w_eq (dLe_int _ _ _) ?_
  | with_reducible refine w_eq (dGt_int _ _ _) ?_
  | with_reducible refine w_eq (dGe_int _ _ _) ?_
  | with_reducible refine w_eq (dNe_int _ _ _) ?_
  | ((with_reducible refine w_mod ?_ ?_); (first | assumption | decide | omega))
  | ((with_reducible refine w_fdiv ?_ ?_); (first | assumption | decide | omega))
  | ((with_reducible refine w_mulS ?_ ?_); (first | decide | omega))
  | ((with_reducible refine w_addS ?_ ?_); (first | assumption | decide | omega))
  | ((with_reducible refine w_lenS ?_ ?_); (first | assumption | decide | omega))
  | ((with_reducible refine w_slS ?_ ?_); (first | assumption | decide | omega))
  | with_reducible refine w_lenTm ?_
  | with_reducible refine w_eq (dLen_tup _ _) ?_
  | with_reducible refine w_eq (dSl_tup _ _ _ _) ?_
  | with_reducible refine w_eq (dMax_ev _ _ _) ?_
  | with_reducible refine w_eq (dMin_ev _ _ _) ?_
  | with_reducible refine w_eq (dAbs_ev _ _) ?_
  | with_reducible refine w_not ?_
  | with_reducible refine w_and ?_
  | with_reducible refine w_or ?_
  | with_reducible refine br_n ?_
  | with_reducible refine br_tt ?_
  | with_reducible refine br_ff ?_
  | ((with_reducible refine br_dt ?_ ?_); (first | assumption | omega | rfl))
  | ((with_reducible refine br_df ?_ ?_); (first | assumption | omega))
  | with_reducible refine w_tup ?_
  | ((with_reducible refine w_toTup ?_ ?_); exact (by simp))
  | with_reducible refine w_lst ?_
  | with_reducible refine w_lc ?_
  | with_reducible refine w_for ?_
  | with_reducible refine w_range1 ?_
  | with_reducible refine w_range2 ?_
  | ((with_reducible refine w_dR1 ?_ ?_); (first | decide | omega))
  | ((with_reducible refine w_dR2 ?_ ?_); (first | decide | omega))
  | with_reducible refine w_iter ?_
  | with_reducible refine w_eq (iter1_tup _ _) ?_
  | with_reducible refine w_eq (iter1_str _ _) ?_
  | with_reducible refine w_sl ?_
  | with_reducible refine w_no ?_
  | with_reducible refine w_some ?_
  | with_reducible refine w_unI ?_
  | with_reducible refine w_meth ?_
  | with_reducible refine w_isi ?_
  | with_reducible refine w_zip ?_
  | with_reducible refine w_ifE ?_
  | with_reducible refine w_andV ?_
  | with_reducible refine w_orV ?_
  | with_reducible refine w_notV ?_
  | with_reducible refine w_andK ?_
  | with_reducible refine w_orK ?_
  | with_reducible refine w_notK ?_
  | with_reducible refine w_revL ?_
  | with_reducible refine w_listRg1 ?_
  | with_reducible refine w_tindex ?_
  | with_reducible refine w_setIx ?_
  | with_reducible refine w_un ?_
  | with_reducible refine w_rev1 ?_
  | with_reducible refine w_rev2 ?_
  | with_reducible refine w_chain ?_
  | with_reducible refine w_chK ?_
  | with_reducible refine w_retN ?_
  | with_reducible refine w_brk ?_
  | with_reducible refine w_cont ?_
  | with_reducible refine w_asgT ?_
  | with_reducible refine w_eq (isi_str_str _ _) ?_
  | with_reducible refine w_eq (isi_int_int _ _) ?_
  | with_reducible refine w_eq (isi_tup_tup _ _) ?_
  | with_reducible refine w_eq (isi_bool_int _ _) ?_
  | with_reducible refine w_eq (isi_str_int _ _) ?_
  | ((with_reducible refine w_lenLm (α := ?_) (f := ?_) (l := ?_) ?_ ?_); rotate_left; rotate_left; rotate_left; walk_at "gl")
  | ((with_reducible refine w_lenL (l := ?_) ?_ ?_); rotate_left; walk_at "gl")
  | ((with_reducible refine w_iterL (l := ?_) ?_ ?_); rotate_left; walk_at "gl"; dsimp only)
  | ((with_reducible refine w_tupL (l := ?_) ?_ ?_); rotate_left; walk_at "gl")
  | ((with_reducible refine w_ixT (d := ?_) ?_ ?_); rotate_left; (first | with_reducible assumption | rfl))
  | ((with_reducible refine w_ixL (l := ?_) (d := ?_) ?_ ?_ ?_); rotate_left; rotate_left; walk_at "gl"; (first | with_reducible assumption | rfl))
  | ((with_reducible refine w_addT ?_ ?_); walk_at "bd")
  | ((with_reducible refine ⟨?_, ?_⟩); (with_reducible (show isListD (.ref _) _ = true)); walk_at "il")
  | with_reducible refine w_tryK ?_
  | with_reducible refine w_raise ?_
  | with_reducible refine w_raise0 ?_
  | with_reducible refine w_isX ?_
  | ((with_reducible refine w_isXK (k := ?_) ?_ ?_); rotate_left; (first | with_reducible exact lkA | (apply lkB; decide +kernel; exact lkA) | (apply lkB; decide +kernel; apply lkB; decide +kernel; exact lkA) | (apply lkB; decide +kernel; apply lkB; decide +kernel; apply lkB; decide +kernel; exact lkA)))
  | with_reducible refine w_xf ?_
  | ((with_reducible refine w_xfK ?_ ?_ ?_); (exact List.mem_cons_self); (decide))
  | with_reducible refine w_eq (isN_xo _) ?_
  | with_reducible refine w_eq (dNeg_int _ _) ?_)
local macro_rules | `(tactic| walk_at "go") => `(tactic| (repeat (walk_at "w")); try dsimp only [List.set])
local macro_rules | `(tactic| walk_at "fn") => `(tactic| ((refine w_fun ?_); simp only [startD, List.map_cons, List.map_nil, List.reduceReplicate, Nat.reduceSub, List.cons_append, List.nil_append]; walk_at "go"))
local macro_rules | `(tactic| walk_at "w") => `(tactic| first
  | with_reducible refine w_eq (notN_non _) ?_
  | with_reducible refine w_eq (notN_int _ _) ?_
  | with_reducible refine w_eq (isN_non _) ?_
  | with_reducible refine w_eq (isN_int _ _) ?_)
abbrev nD (l : List Nat) : List D := l.map fun (z : Nat) => D.int (z : Int)
def nkG54 (pl : List Int) : NestedKey := .tup (pl.map .num)
theorem nkDs_int54 : ∀ pl : List Int, nkDs (pl.map .int) = some (pl.map .num)
  | [] => rfl
  | v :: pl => by
    show nkDs (D.int v :: pl.map .int) = _
    rw [nkDs, nkDs_int54 pl]
    rfl
theorem depthAll_num54 : ∀ pl : List Int, NestedKey.depthAll (pl.map .num) = 0
  | [] => rfl
  | v :: pl => by
    show NestedKey.depthAll (NestedKey.num v :: pl.map .num) = 0
    rw [NestedKey.depthAll, depthAll_num54 pl]
    rfl
theorem nkT_int54 (pl : List Int) : nkT (.tup (pl.map .int)) = some (nkG54 pl) := by
  have e : nkD (.tup (pl.map .int)) = some (nkG54 pl) := by
    rw [nkD, nkDs_int54]; rfl
  have hd : (nkG54 pl).depth ≤ 8 := by
    unfold nkG54
    rw [NestedKey.depth, depthAll_num54]
    decide
  unfold nkT
  simp only [e, if_pos hd]
theorem nkG54_inj {a b : List Int} (h : nkG54 a = nkG54 b) : a = b := by
  unfold nkG54 at h
  injection h with h
  exact List.map_inj_right (fun x y z => by injection z) |>.mp h
def nkN (l : List Nat) : NestedKey := nkG54 (l.map fun (z : Nat) => (z : Int))
theorem nkN_inj {a b : List Nat} (h : nkN a = nkN b) : a = b := List.map_inj_right (fun x y z => by omega) |>.mp (nkG54_inj h)
theorem nkT_nD (l : List Nat) : nkT (.tup (nD l)) = some (nkN l) := by
  have : nD l = (l.map fun (z : Nat) => (z : Int)).map D.int := by rw [List.map_map]; rfl
  rw [this]
  exact nkT_int54 _
theorem valN_snoc54 {l : List (NestedKey × D)} {k k' : NestedKey} {d : D} : valN (l ++ [(k, d)]) k' = (valN l k').or (if k = k' then some d else none) := by
  unfold valN
  rw [List.find?_append]
  cases e : l.find? fun x => decide (x.1 = k') with
  | some y => simp
  | none =>
    by_cases z : k = k'
    · simp [z]
    · simp [z]
theorem putN_none54 {l : List (NestedKey × D)} {k : NestedKey} {d : D} (h : valN l k = none) : putN l k d = l ++ [(k, d)] := by
  unfold putN
  rw [h]
  simp
theorem nD_at {l : List Nat} {k : Nat} (h : k < l.length) : atI (nD l) (k : Int) = some (.int ((l.getD k 0 : Nat) : Int)) := atI_at (by
  rw [List.getElem?_map, List.getD_eq_getElem?_getD, List.getElem?_eq_getElem h]; rfl)
abbrev rng (n : Nat) (c : Nat → Nat) : List Nat := (List.range n).map c
theorem rng_at {n : Nat} {c : Nat → Nat} {k : Nat} (h : k < n) : atI (nD (rng n c)) (k : Int) = some (.int ((c k : Nat) : Int)) := by
  rw [nD_at (by simpa using h)]
  congr 3
  rw [List.getD_eq_getElem?_getD, List.getElem?_map, List.getElem?_range h]
  rfl
noncomputable def parts54 (st : List Int) (sp : List (List Int)) : List Nat := by
  classical
  exact (List.range sp.length).filter fun s => decide (Come st sp s)
theorem parts_mem {st : List Int} {sp : List (List Int)} {s : Nat} : s ∈ parts54 st sp ↔ s < sp.length ∧ Come st sp s := by
  unfold parts54
  rw [List.mem_filter, List.mem_range]
  simp
theorem come_lt54 {st : List Int} {sp : List (List Int)} (gr : Rows sp) (hst : ∀ z ∈ st, 0 ≤ z ∧ z < (sp.length : Int)) {s : Nat} (h : Come st sp s) : s < sp.length := by
  induction h with
  | start h => have := hst _ h; omega
  | step _ _ h1 h2 => obtain ⟨_, _, _, h3⟩ := gr.at h1 h2; exact h3
section
variable {fs ns : List Str} {st : List Int} {sp : List (List Int)} {mk : List Int}
theorem k_partners54 {h : MH} (gr : Rows sp) (hn : sp.length ≤ 60) (hst : ∀ z ∈ st, 0 ≤ z ∧ z < (sp.length : Int)) (hmk : mk.length = sp.length) :
    Sat (m_partners_f0b60 [gmD fs ns st sp mk] h) (fun d h' => ∃ j, d = .ref j ∧ Own h h' [(j, nD (parts54 st sp))]) noX := by
  walk_at "fn"
  refine (cc_sizes45 gr hn hst hmk).mono ?_
  rintro d h1 ⟨p1, t, rfl, iv, hc⟩
  have hlen := iv.len
  walk_at "go"
  let bf : D → Bool := fun d => match d with
    | .int k => (t.getD k.toNat none).isSome
    | _ => false
  refine o_compF54 bf id ((Own.nil h).ext p1) (by rw [rangeD_length]; simp; omega) (fun _ _ => rfl) ?_ ?_
  · intro k d h5 hd5 hp5
    obtain ⟨hk5, rfl⟩ := rangeD_get hd5
    have hk : k < t.length := by simpa using hk5
    rw [show (0 : Int) + (k : Int) = (k : Int) by omega]
    have e0 := getE (l := t) (i := k) hk
    have eb : bf (.int (k : Int)) = (t[k]).isSome := by
      show (t.getD ((k : Int)).toNat none).isSome = _
      rw [Int.toNat_natCast, List.getD_eq_getElem?_getD, e0]
      rfl
    rw [eb]
    generalize t[k] = o at *
    have a0 := tb_at e0
    refine ⟨_, rfl, ?_, ?_⟩
    · dsimp only [wipeD, List.set]
      cases o with
      | none =>
        rw [oD] at a0
        walk_at "go"
        exact ⟨rfl, rfl⟩
      | some z =>
        rw [oD] at a0
        walk_at "go"
        exact ⟨rfl, rfl⟩
    · dsimp only [wipeD, List.set]
      walk_at "go"
      exact ⟨rfl, rfl⟩
  intro jl h5 o5
  rw [List.map_id] at o5
  have el : (rangeD 0 ((t.length : Nat) : Int).toNat).filter bf = nD (parts54 st sp) := by
    have er : rangeD 0 ((t.length : Nat) : Int).toNat = (List.range sp.length).map fun (k : Nat) => D.int (k : Int) := by
      refine List.ext_getElem (by rw [rangeD_length]; simp [hlen]) fun k a1 a2 => ?_
      have e1 := (rangeD_get (List.getElem?_eq_getElem a1)).2
      rw [e1]
      simp
    rw [er, List.filter_map]
    unfold parts54 nD
    congr 1
    refine List.filter_congr fun s hs => ?_
    have hs' : s < t.length := by rw [hlen]; exact List.mem_range.mp hs
    show (t.getD ((s : Int)).toNat none).isSome = _
    rw [Int.toNat_natCast, List.getD_eq_getElem?_getD, getE (l := t) (i := s) hs', Bool.eq_iff_iff]
    have := iv.come hc s
    simp only [decide_eq_true_eq]
    rw [← this, getE (l := t) (i := s) hs']
    cases t[s] <;> simp
  rw [el] at o5
  exact ⟨jl, rfl, o5⟩
theorem k_finer54 {h : MH} (gr : Rows sp) (hn : sp.length ≤ 60) {c : Nat → Nat} {jc js : Nat} (gc : getL h jc = some (nD (rng sp.length c))) {P : List Nat} (gs : getL h js = some (nD P)) (hP : ∀ r ∈ P, r < sp.length) (hPl : P.length ≤ 60) :
    Sat (m_finer_10ac3 [gmD fs ns st sp mk, .ref jc, .ref js] h) (fun d h' => ∃ j, d = .ref j ∧ Cel h h' [(j, .lst (nD (rng sp.length (lea (keyF sp P c)))))]) noX := by
  walk_at "fn"
  refine c_dict0 (Cel.nil h) fun jd h1 c1 => ?_
  walk_at "go"
  refine c_new c1 (by simp) fun jf h2 c2 => ?_
  have lc : (nD (rng sp.length c)).length = sp.length := by simp
  have gc2 := pre_getL c2.pre gc
  walk_at "go"
  have lr : (rng sp.length c).length = sp.length := by simp
  rw [lr]
  walk_at "go"
  refine w_loop0 (fun k ρ h' => ∃ (o5 o6 o7 : Option D) (l : List (NestedKey × D)) (o : MO), ρ = [some (gmD fs ns st sp mk), some (.ref jc), some (.ref js), some (.ref jd), some (.ref jf), o5, o6, o7] ∧ Cel h h' [(jf, .lst (nD (rng k (lea (keyF sp P c))))), (jd, o)] ∧ (o = .dN l ∨ (o = .dK [] ∧ l = [])) ∧ l.length ≤ k ∧ ∀ κ : List Nat, valN l (nkN κ) = ((List.range k).find? fun x => decide (keyF sp P c x = κ)).map fun (x : Nat) => D.int (x : Int)) ⟨none, none, none, [], .dK [], rfl, c2, .inr ⟨rfl, rfl⟩, Nat.le_refl _, fun κ => rfl⟩ (fun _ _ _ _ => rfl) ?_ ?_
  · rintro p d ρ h3 hd ⟨o5, o6, o7, l, o, rfl, c3, ho, hll, hv⟩
    obtain ⟨hp, rfl⟩ := rangeD_get hd
    have hp' : p < sp.length := by simpa using hp
    rw [show (0 : Int) + (p : Int) = (p : Int) by omega]
    have gc3 := pre_getL c3.pre gc
    have acp : atI (nD (rng sp.length c)) (p : Int) = some (.int ((c p : Nat) : Int)) := rng_at hp'
    refine ⟨_, rfl, ?_⟩
    dsimp only [List.set]
    walk_at "go"
    refine c_new c3 (by simp) fun jk h4 c4 => ?_
    have gs4 := pre_getL c4.pre gs
    walk_at "go"
    refine w_loop0 (fun k ρ h' => ∃ (o7 : Option D), ρ = [some (gmD fs ns st sp mk), some (.ref jc), some (.ref js), some (.ref jd), some (.ref jf), some (.int (p : Int)), some (.ref jk), o7] ∧ Cel h h' [(jk, .lst (nD (keyF sp (P.take k) c p))), (jf, .lst (nD (rng p (lea (keyF sp P c))))), (jd, o)]) ⟨_, rfl, c4⟩ (fun k ρ h' ⟨_, _, c'⟩ => decide_eq_true (pre_getL c'.pre gs)) ?_ ?_
    · rintro k d ρ h5 hd ⟨o7, rfl, c5⟩
      rw [List.getElem?_map, Option.map_eq_some_iff] at hd
      obtain ⟨r, er, rfl⟩ := hd
      have hr := hP r (List.mem_of_getElem? er)
      have hk := (List.getElem?_eq_some_iff.mp er).1
      have gc5 := pre_getL c5.pre gc
      obtain ⟨row, r1, r2, r3⟩ := gr.at (p := p) (q := r) hp' hr
      obtain ⟨row', r1', r2', r3'⟩ := gr.at (p := r) (q := p) hr hp'
      have a1 : atI (nD (rng sp.length c)) ((nx sp p r : Nat) : Int) = some (.int ((c (nx sp p r) : Nat) : Int)) := rng_at r3
      have a2 : atI (nD (rng sp.length c)) ((nx sp r p : Nat) : Int) = some (.int ((c (nx sp r p) : Nat) : Int)) := rng_at r3'
      have hkl : (keyF sp (P.take k) c p).length ≤ 1 + 2 * k := by
        unfold keyF
        have : ∀ l : List Nat, (l.flatMap fun r => [c (nx sp p r), c (nx sp r p)]).length = 2 * l.length := fun l => by
          induction l with
          | nil => rfl
          | cons a l ih => rw [List.flatMap_cons, List.length_append, ih]; simp; omega
        rw [List.length_cons, this, List.length_take]
        omega
      have isL5 : isListD (.ref jk) h5 = true := c5.isL 0 rfl
      refine ⟨_, rfl, ?_⟩
      unfold gmD
      dsimp only [List.set]
      walk_at "go"
      refine ⟨isL5, ?_⟩
      walk_at "go"
      refine c_app c5 0 rfl (by rw [List.length_map]; omega) fun h6 c6 => ?_
      rw [List.set_cons_zero] at c6
      have gc6 := pre_getL c6.pre gc
      have isL6 : isListD (.ref jk) h6 = true := c6.isL 0 rfl
      walk_at "go"
      refine ⟨isL6, ?_⟩
      walk_at "go"
      refine c_app c6 0 rfl (by rw [List.length_append, List.length_map]; have : ∀ d : D, [d].length = 1 := fun _ => rfl; rw [this]; omega) fun h7 c7 => ?_
      rw [List.set_cons_zero] at c7
      refine ⟨_, rfl, ?_⟩
      have ek : keyF sp (P.take (k + 1)) c p = keyF sp (P.take k) c p ++ [c (nx sp p r), c (nx sp r p)] := by
        unfold keyF
        rw [take_snoc er, List.flatMap_append]
        simp
      rw [ek]
      unfold nD
      rw [List.map_append]
      unfold nD at c7
      rw [List.append_assoc] at c7
      exact c7
    · rintro ρ h5 ⟨o7, rfl, c5⟩
      rw [List.length_map, List.take_length] at c5
      have isL5 : isListD (.ref jf) h5 = true := c5.isL 1 rfl
      have gk5 := c5.atL 0 rfl
      have od : h5[jd]? = some o := c5.at 2 rfl
      have gn : getN h5 (.ref jd) = some l := by
        rcases ho with rfl | ⟨rfl, rfl⟩
        · simp only [getN, od]
        · simp only [getN, od]
      have eK := nkT_nD (keyF sp P c p)
      walk_at "go"
      refine ⟨isL5, ?_⟩
      walk_at "go"
      refine w_dm ?_
      walk_at "go"
      refine ⟨isDctD_N gn, ?_⟩
      walk_at "go"
      have spec := lea_spec (keyF sp P c) p
      refine w_setN rfl eK gn (by omega) (fun v hv1 => ?_) (fun hv1 => ?_)
      · have hv2 := hv (keyF sp P c p)
        rw [hv1] at hv2
        have e1 : v = .int ((lea (keyF sp P c) p : Nat) : Int) := by
          unfold lea
          cases e : (List.range p).find? fun x => decide (keyF sp P c x = keyF sp P c p) with
          | none => rw [e] at hv2; cases hv2
          | some y => rw [e] at hv2; simpa using hv2
        subst e1
        walk_at "go"
        refine c_app c5 1 rfl (by simp; omega) fun h6 c6 => ?_
        simp only [List.set_cons_succ, List.set_cons_zero] at c6
        refine ⟨_, _, _, l, o, rfl, ?_, ho, by omega, fun κ => ?_⟩
        · have e3 : nD (rng (p + 1) (lea (keyF sp P c))) = nD (rng p (lea (keyF sp P c))) ++ [.int ((lea (keyF sp P c) p : Nat) : Int)] := by
            unfold nD rng
            rw [List.range_succ]
            simp
          rw [e3]
          exact c6.tail
        · rw [hv κ, List.range_succ, List.find?_append]
          cases e : (List.range p).find? fun x => decide (keyF sp P c x = κ) with
          | some y => simp
          | none =>
            by_cases z : keyF sp P c p = κ
            · exfalso
              rw [z] at hv1
              rw [hv κ, e] at hv1
              cases hv1
            · simp [z]
      · have hv2 := hv (keyF sp P c p)
        rw [hv1] at hv2
        have e0 : (List.range p).find? (fun x => decide (keyF sp P c x = keyF sp P c p)) = none := by
          cases e : (List.range p).find? fun x => decide (keyF sp P c x = keyF sp P c p) with
          | none => rfl
          | some y => rw [e] at hv2; cases hv2
        have e1 : lea (keyF sp P c) p = p := by unfold lea; rw [e0]; rfl
        rw [putN_none54 hv1]
        have c6 := c5.setAt 2 rfl (.dN (l ++ [(nkN (keyF sp P c p), .int (p : Int))]))
        simp only [List.set_cons_succ, List.set_cons_zero] at c6
        walk_at "go"
        refine c_app c6 1 rfl (by simp; omega) fun h7 c7 => ?_
        simp only [List.set_cons_succ, List.set_cons_zero] at c7
        refine ⟨_, _, _, l ++ [(nkN (keyF sp P c p), .int (p : Int))], .dN (l ++ [(nkN (keyF sp P c p), .int (p : Int))]), rfl, ?_, .inl rfl, by rw [List.length_append]; exact Nat.add_le_add_right hll 1, fun κ => ?_⟩
        · have e3 : nD (rng (p + 1) (lea (keyF sp P c))) = nD (rng p (lea (keyF sp P c))) ++ [.int (p : Int)] := by
            unfold nD rng
            rw [List.range_succ]
            simp [e1]
          rw [e3]
          exact c7.tail
        · rw [valN_snoc54, hv κ, List.range_succ, List.find?_append]
          cases e : (List.range p).find? fun x => decide (keyF sp P c x = κ) with
          | some y => simp
          | none =>
            by_cases z : keyF sp P c p = κ
            · subst z; simp
            · have : ¬ nkN (keyF sp P c p) = nkN κ := fun w => z (nkN_inj w)
              simp [z, this]
  · rintro ρ h3 ⟨o5, o6, o7, l, o, rfl, c3, ho, hll, hv⟩
    rw [rangeD_length, Int.toNat_natCast] at c3
    walk_at "go"
    exact ⟨jf, rfl, c3.sub (by simp)⟩
end
end Mi

namespace Mi
open PySem L2
local macro_rules | `(tactic| walk_at "gl") => `(tactic| first
  | assumption
  | (refine Own.atL (h0 := ?_) (L := ?_) ?_ 0 ?_; rotate_left; rotate_left; assumption; rfl)
  | (refine Own.atL (h0 := ?_) (L := ?_) ?_ 1 ?_; rotate_left; rotate_left; assumption; rfl)
  | (refine Own.atL (h0 := ?_) (L := ?_) ?_ 2 ?_; rotate_left; rotate_left; assumption; rfl)
  | (refine Own.atL (h0 := ?_) (L := ?_) ?_ 3 ?_; rotate_left; rotate_left; assumption; rfl)
  | (refine Own.atL (h0 := ?_) (L := ?_) ?_ 4 ?_; rotate_left; rotate_left; assumption; rfl)
  | (refine Own.atL (h0 := ?_) (L := ?_) ?_ 5 ?_; rotate_left; rotate_left; assumption; rfl)
  | (refine Own.atL (h0 := ?_) (L := ?_) ?_ 6 ?_; rotate_left; rotate_left; assumption; rfl)
  | (refine Own.atL (h0 := ?_) (L := ?_) ?_ 7 ?_; rotate_left; rotate_left; assumption; rfl)
  | (refine Own.atL (h0 := ?_) (L := ?_) ?_ 8 ?_; rotate_left; rotate_left; assumption; rfl)
  | (refine Own.atL (h0 := ?_) (L := ?_) ?_ 9 ?_; rotate_left; rotate_left; assumption; rfl)
  | (refine Own.getL (h0 := ?_) (L := ?_) ?_ ?_; rotate_left; rotate_left; assumption; assumption))
local macro_rules | `(tactic| walk_at "il") => `(tactic| first
  | (refine Own.isL (h0 := ?_) (L := ?_) (l := ?_) ?_ 0 ?_; rotate_left; rotate_left; rotate_left; assumption; rfl)
  | (refine Own.isL (h0 := ?_) (L := ?_) (l := ?_) ?_ 1 ?_; rotate_left; rotate_left; rotate_left; assumption; rfl)
  | (refine Own.isL (h0 := ?_) (L := ?_) (l := ?_) ?_ 2 ?_; rotate_left; rotate_left; rotate_left; assumption; rfl)
  | (refine Own.isL (h0 := ?_) (L := ?_) (l := ?_) ?_ 3 ?_; rotate_left; rotate_left; rotate_left; assumption; rfl)
  | (refine Own.isL (h0 := ?_) (L := ?_) (l := ?_) ?_ 4 ?_; rotate_left; rotate_left; rotate_left; assumption; rfl)
  | (refine Own.isL (h0 := ?_) (L := ?_) (l := ?_) ?_ 5 ?_; rotate_left; rotate_left; rotate_left; assumption; rfl)
  | (refine Own.isL (h0 := ?_) (L := ?_) (l := ?_) ?_ 6 ?_; rotate_left; rotate_left; rotate_left; assumption; rfl)
  | (refine Own.isL (h0 := ?_) (L := ?_) (l := ?_) ?_ 7 ?_; rotate_left; rotate_left; rotate_left; assumption; rfl)
  | (refine Own.isL (h0 := ?_) (L := ?_) (l := ?_) ?_ 8 ?_; rotate_left; rotate_left; rotate_left; assumption; rfl)
  | (refine Own.isL (h0 := ?_) (L := ?_) (l := ?_) ?_ 9 ?_; rotate_left; rotate_left; rotate_left; assumption; rfl))
local macro_rules | `(tactic| walk_at "bd") => `(tactic| first | assumption | omega | (simp; done) | (simp; omega) | (simp [*]; done) | (simp [*]; omega))
local macro_rules | `(tactic| walk_at "w") => `(tactic| first
  | with_reducible refine w_seq ?_
  | with_reducible refine w_asg ?_
  | with_reducible refine w_cons ?_
  | with_reducible refine w_nil ?_
  | with_reducible refine w_c ?_
  | ((with_reducible refine w_var (d := ?_) ?_ ?_); rotate_left; rfl)
  | with_reducible refine w_bin ?_
  | with_reducible refine w_call ?_
  | with_reducible refine w_if ?_
  | with_reducible refine w_B ?_
  | with_reducible refine w_unB ?_
  | with_reducible refine w_ret ?_
  | with_reducible refine w_drop ?_
  | with_reducible refine w_skip ?_
  | with_reducible refine w_eq (dAdd_int _ _ _) ?_
  | with_reducible refine w_eq (dSub_int _ _ _) ?_
  | with_reducible refine w_eq (dEq_int _ _ _) ?_
  | with_reducible refine w_eq (dEq_str _ _ _) ?_
  | with_reducible refine w_eq (dNe_strs _ _ _) ?_
  | with_reducible refine w_eq (dEq_bls _ _ _) ?_
  | with_reducible refine w_eq (dNe_bls _ _ _) ?_
  | with_reducible refine w_eq (dLt_int _ _ _) ?_
  | with_reducible refine w_eq (dLe_int _ _ _) ?_
  | with_reducible refine w_eq (dGt_int _ _ _) ?_
  | with_reducible refine w_eq (dGe_int _ _ _) ?_
  | with_reducible refine w_eq (dNe_int _ _ _) ?_
  | ((with_reducible refine w_mod ?_ ?_); (first | assumption | decide | omega))
  | ((with_reducible refine w_fdiv ?_ ?_); (first | assumption | decide | omega))
  | ((with_reducible refine w_mulS ?_ ?_); (first | decide | omega))
  | ((with_reducible refine w_addS ?_ ?_); (first | assumption | decide | omega))
  | ((with_reducible refine w_lenS ?_ ?_); (first | assumption | decide | omega))
  | ((with_reducible refine w_slS ?_ ?_); (first | assumption | decide | omega))
  | with_reducible refine w_lenTm ?_
  | with_reducible refine w_eq (dLen_tup _ _) ?_
  | with_reducible refine w_eq (dSl_tup _ _ _ _) ?_
  | with_reducible refine w_eq (dMax_ev _ _ _) ?_
  | with_reducible refine w_eq (dMin_ev _ _ _) ?_
  | with_reducible refine w_eq (dAbs_ev _ _) ?_
  | with_reducible refine w_not ?_
  | with_reducible refine w_and ?_
  | with_reducible refine w_or ?_
  | with_reducible refine br_n ?_
  | with_reducible refine br_tt ?_
  | with_reducible refine br_ff ?_
  | ((with_reducible refine br_dt ?_ ?_); (first | assumption | omega | rfl))
  | ((with_reducible refine br_df ?_ ?_); (first | assumption | omega))
  | with_reducible refine w_tup ?_
  | ((with_reducible refine w_toTup ?_ ?_); exact (by simp))
  | with_reducible refine w_lst ?_
  | with_reducible refine w_lc ?_
  | with_reducible refine w_for ?_
  | with_reducible refine w_range1 ?_
  | with_reducible refine w_range2 ?_
  | ((with_reducible refine w_dR1 ?_ ?_); (first | decide | omega))
  | ((with_reducible refine w_dR2 ?_ ?_); (first | decide | omega))
  | with_reducible refine w_iter ?_
  | with_reducible refine w_eq (iter1_tup _ _) ?_
  | with_reducible refine w_eq (iter1_str _ _) ?_
  | with_reducible refine w_sl ?_
  | with_reducible refine w_no ?_
  | with_reducible refine w_some ?_
  | with_reducible refine w_unI ?_
  | with_reducible refine w_meth ?_
  | with_reducible refine w_isi ?_
  | with_reducible refine w_zip ?_
  | with_reducible refine w_ifE ?_
  | with_reducible refine w_andV ?_
  | with_reducible refine w_orV ?_
  | with_reducible refine w_notV ?_
  | with_reducible refine w_andK ?_
  | with_reducible refine w_orK ?_
  | with_reducible refine w_notK ?_
  | with_reducible refine w_revL ?_
  | with_reducible refine w_listRg1 ?_
  | with_reducible refine w_tindex ?_
  | with_reducible refine w_setIx ?_
  | with_reducible refine w_un ?_
  | with_reducible refine w_rev1 ?_
  | with_reducible refine w_rev2 ?_
  | with_reducible refine w_chain ?_
  | with_reducible refine w_chK ?_
  | with_reducible refine w_retN ?_
  | with_reducible refine w_brk ?_
  | with_reducible refine w_cont ?_
  | with_reducible refine w_asgT ?_
  | with_reducible refine w_eq (isi_str_str _ _) ?_
  | with_reducible refine w_eq (isi_int_int _ _) ?_
  | with_reducible refine w_eq (isi_tup_tup _ _) ?_
  | with_reducible refine w_eq (isi_bool_int _ _) ?_
  | with_reducible refine w_eq (isi_str_int _ _) ?_
  | ((with_reducible refine w_lenLm (α := ?_) (f := ?_) (l := ?_) ?_ ?_); rotate_left; rotate_left; rotate_left; walk_at "gl")
  | ((with_reducible refine w_lenL (l := ?_) ?_ ?_); rotate_left; walk_at "gl")
  | ((with_reducible refine w_iterL (l := ?_) ?_ ?_); rotate_left; walk_at "gl"; dsimp only)
  | ((with_reducible refine w_tupL (l := ?_) ?_ ?_); rotate_left; walk_at "gl")
  | ((with_reducible refine w_ixT (d := ?_) ?_ ?_); rotate_left; (first | with_reducible assumption | rfl))
  | ((with_reducible refine w_ixL (l := ?_) (d := ?_) ?_ ?_ ?_); rotate_left; rotate_left; walk_at "gl"; (first | with_reducible assumption | rfl))
  | ((with_reducible refine w_addT ?_ ?_); walk_at "bd")
  | ((with_reducible refine ⟨?_, ?_⟩); (with_reducible (show isListD (.ref _) _ = true)); walk_at "il")
  | with_reducible refine w_tryK ?_
  | with_reducible refine w_raise ?_
  | with_reducible refine w_raise0 ?_
  | with_reducible refine w_isX ?_
  | ((with_reducible refine w_isXK (k := ?_) ?_ ?_); rotate_left; (first | with_reducible exact lkA | (apply lkB; decide +kernel; exact lkA) | (apply lkB; decide +kernel; apply lkB; decide +kernel; exact lkA) | (apply lkB; decide +kernel; apply lkB; decide +kernel; apply lkB; decide +kernel; exact lkA)))
  | with_reducible refine w_xf ?_
  | ((with_reducible refine w_xfK ?_ ?_ ?_); (exact List.mem_cons_self); (decide))
  | with_reducible refine w_eq (isN_xo _) ?_
  | with_reducible refine w_eq (dNeg_int _ _) ?_)
local macro_rules | `(tactic| walk_at "go") => `(tactic| (repeat (walk_at "w")); try dsimp only [List.set])
local macro_rules | `(tactic| walk_at "fn") => `(tactic| ((refine w_fun ?_); simp only [startD, List.map_cons, List.map_nil, List.reduceReplicate, Nat.reduceSub, List.cons_append, List.nil_append]; walk_at "go"))
local macro_rules | `(tactic| walk_at "w") => `(tactic| first
  | with_reducible refine w_eq (notN_non _) ?_
  | with_reducible refine w_eq (notN_int _ _) ?_
  | with_reducible refine w_eq (isN_non _) ?_
  | with_reducible refine w_eq (isN_int _ _) ?_)
/-- a comprehension whose parts change cells of one's own -/
theorem c_compS54 {σ : Type} {h0 h : MH} {Q : D → MH → Prop} {E : XE} {gd : MH → Bool} {tg : MG} {te : ME} {ρ : Slots} (Lf : σ → CL) (I : Nat → List D → σ → Prop) {s0 : σ} {items : List D} (o : Cel h0 h (Lf s0)) (i0 : I 0 [] s0) (hl : items.length ≤ 1000000)
    (hg : ∀ c acc s h', Cel h0 h' ((c, .lst acc) :: Lf s) → gd h' = true)
    (hs : ∀ i d acc s c h', items[i]? = some d → acc.length = i → I i acc s → Cel h0 h' ((c, .lst acc) :: Lf s) → ∃ ρ1, tg d ρ = some ρ1 ∧ Sat (te ρ1 h') (fun y h2 => ∃ s', Cel h0 h2 ((c, .lst acc) :: Lf s') ∧ I (i + 1) (acc ++ [y]) s') noX)
    (hn : ∀ acc s c h', acc.length = items.length → I items.length acc s → Cel h0 h' ((c, .lst acc) :: Lf s) → Q (.ref c) h') : Sat (lcGo gd tg mYes te h.length ρ items (h ++ [.lst []])) Q E := by
  refine w_comp (fun k acc h' => acc.length = k ∧ ∃ s, I k acc s ∧ Cel h0 h' ((h.length, .lst acc) :: Lf s)) (k := 0) ⟨rfl, s0, i0, o.alloc (.lst [])⟩ (by simp) (by simpa using hl) (fun i acc h' hi => by
    obtain ⟨_, s, _, hi⟩ := hi
    exact hg _ _ _ _ hi) ?_ ?_
  · rintro i d acc h' hd ⟨ha, s, hi, ho⟩ hc
    rw [Nat.zero_add] at ha hi ⊢
    obtain ⟨ρ1, e1, q⟩ := hs i d acc s _ h' hd ha hi ho
    refine ⟨ρ1, e1, true, _, rfl, (fun z => Bool.noConfusion z), fun _ => q.mono ?_⟩
    rintro y h2 ⟨s', o2, i2⟩
    exact ⟨o2.at 0 rfl, by simp [ha], s', i2, o2.setAt 0 rfl _⟩
  · rintro acc h' ⟨ha, s, hi, ho⟩ hc
    rw [Nat.zero_add] at ha hi
    exact hn acc s _ h' ha hi ho
def cellH (sp : List (List Int)) (mk : List Int) (P : List Nat) (kc : List Nat) : CL := kc.zipIdx.map fun p => (p.1, MO.lst (nD (rng sp.length (cls sp mk P p.2))))
theorem at_last54 {l : List D} {n : Nat} {d : D} (hl : l.length = n + 1) (e : l[n]? = some d) : atI l (-1) = some d := by
  unfold atI ixN
  rw [if_neg (by decide), if_pos (by omega)]
  have : (-1 + (l.length : Int)).toNat = n := by omega
  simp only [this, Option.bind_some]
  exact e
theorem put_new54 {l : List (Key × D)} {k : Key} {d : D} (h : valD l k = none) : putKD l k d = l ++ [(k, d)] := by
  unfold putKD
  rw [if_neg]
  rw [List.any_eq_true]
  rintro ⟨x, hx, e⟩
  unfold valD at h
  rw [Option.map_eq_none_iff, List.find?_eq_none] at h
  exact h x hx e
theorem valD_snoc54 {l : List (Key × D)} {k k' : Key} {d : D} : valD (l ++ [(k, d)]) k' = (valD l k').or (if k = k' then some d else none) := by
  unfold valD
  rw [List.find?_append]
  cases e : l.find? fun x => decide (x.1 = k') with
  | some y => simp
  | none =>
    by_cases z : k = k'
    · simp [z]
    · simp [z]
section
variable {fs ns : List Str} {st : List Int} {sp : List (List Int)} {mk : List Int} {P : List Nat}
theorem cellH_at {kc : List Nat} {k j : Nat} (e : kc[k]? = some j) : (cellH sp mk P kc)[k]? = some (j, .lst (nD (rng sp.length (cls sp mk P k)))) := by
  unfold cellH
  rw [List.getElem?_map, List.getElem?_zipIdx, e]
  simp
theorem cellH_snoc {kc : List Nat} {j : Nat} : cellH sp mk P (kc ++ [j]) = cellH sp mk P kc ++ [(j, .lst (nD (rng sp.length (cls sp mk P kc.length))))] := by
  unfold cellH
  rw [List.zipIdx_append, List.map_append]
  simp
theorem Cel.perm54 {h0 h : MH} {L M : CL} (o : Cel h0 h L) (p : L.Perm M) : Cel h0 h M := ⟨o.pre, fun q hq => o.cell q (p.mem_iff.mpr hq), (p.map _).nodup_iff.mp o.nd⟩
theorem nD_int (l : List Nat) : nD l = (l.map fun (z : Nat) => (z : Int)).map D.int := by rw [List.map_map]; rfl
theorem k_rounds54 {h : MH} (gr : Rows sp) (hn1 : 1 ≤ sp.length) (hn : sp.length ≤ 60) (hst : ∀ z ∈ st, 0 ≤ z ∧ z < (sp.length : Int)) (hmk : mk.length = sp.length) :
    Sat (m_rounds_f8746 [gmD fs ns st sp mk] h) (fun d h' => ∃ jF kc, d = .ref jF ∧ Cel h h' ((jF, .lst (kc.map D.ref)) :: cellH sp mk (parts54 st sp) kc) ∧ 1 ≤ kc.length ∧ kc.length ≤ 61 ∧ Stab sp mk (parts54 st sp) sp.length (kc.length - 1)) noX := by
  walk_at "fn"
  refine (k_partners54 gr hn hst hmk).mono ?_
  rintro d h1 ⟨js, rfl, o1⟩
  have c1 := o1.cel
  have hPm : ∀ r ∈ parts54 st sp, r < sp.length := fun r hr => (parts_mem.mp hr).1
  have hPl : (parts54 st sp).length ≤ 60 := by
    unfold parts54
    refine Nat.le_trans (List.length_filter_le _ _) ?_
    simp; omega
  generalize eP : parts54 st sp = P at *
  walk_at "go"
  refine c_dict0 c1 fun jk h2 c2 => ?_
  unfold gmD
  walk_at "go"
  refine c_compS54 (σ := List (Key × D)) (fun l => [(jk, .dK l), (js, .lst (nD P))]) (fun k acc l => acc = nD (rng k (cls sp mk P 0)) ∧ l.length ≤ k ∧ ∀ z : Int, valD l (.inl z) = ((List.range k).find? fun x => decide (mk.getD x 0 = z)).map fun (x : Nat) => D.int (x : Int)) (s0 := []) c2 ⟨rfl, Nat.le_refl _, fun z => rfl⟩ (by rw [rangeD_length]; simp; omega) (fun _ _ _ _ _ => rfl) ?_ ?_
  · rintro p d acc l c h3 hd hacc ⟨rfl, hll, hv⟩ c3
    obtain ⟨hp, rfl⟩ := rangeD_get hd
    have hp' : p < mk.length := by simpa using hp
    rw [show (0 : Int) + (p : Int) = (p : Int) by omega]
    have am : atI (mk.map D.int) (p : Int) = some (.int (mk.getD p 0)) := at_nat hp'
    have cd := c3.at 1 rfl
    refine ⟨_, rfl, ?_⟩
    dsimp only [wipeD, List.set]
    refine w_dm ?_
    walk_at "go"
    refine ⟨isDctD_K cd, ?_⟩
    walk_at "go"
    have eadd : ∀ v : Nat, nD (rng (p + 1) (cls sp mk P 0)) = nD (rng p (cls sp mk P 0)) ++ [.int ((cls sp mk P 0 p : Nat) : Int)] := fun _ => by
      unfold nD rng
      rw [List.range_succ]
      simp
    refine w_setK (k := .inl (mk.getD p 0)) rfl cd (by omega) (fun v hv1 => ?_) (fun hv1 => ?_)
    · have hv2 := hv (mk.getD p 0)
      rw [hv1] at hv2
      have e1 : v = .int ((cls sp mk P 0 p : Nat) : Int) := by
        show v = .int ((lea (fun p => mk.getD p 0) p : Nat) : Int)
        unfold lea
        cases e : (List.range p).find? fun x => decide (mk.getD x 0 = mk.getD p 0) with
        | none => rw [e] at hv2; cases hv2
        | some y => rw [e] at hv2; simpa using hv2
      subst e1
      refine ⟨l, c3, ?_, by omega, fun z => ?_⟩
      · rw [eadd 0]
      · rw [hv z, List.range_succ, List.find?_append]
        cases e : (List.range p).find? fun x => decide (mk.getD x 0 = z) with
        | some y => simp
        | none =>
          by_cases w : mk.getD p 0 = z
          · exfalso
            rw [w] at hv1
            rw [hv z, e] at hv1
            cases hv1
          · simp [-List.getD_eq_getElem?_getD, w]
    · have hv2 := hv (mk.getD p 0)
      rw [hv1] at hv2
      have e0 : (List.range p).find? (fun x => decide (mk.getD x 0 = mk.getD p 0)) = none := by
        cases e : (List.range p).find? fun x => decide (mk.getD x 0 = mk.getD p 0) with
        | none => rfl
        | some y => rw [e] at hv2; cases hv2
      have e1 : cls sp mk P 0 p = p := by
        show lea (fun p => mk.getD p 0) p = p
        unfold lea
        rw [e0]; rfl
      rw [put_new54 hv1]
      have c6 := c3.setAt 1 rfl (.dK (l ++ [(.inl (mk.getD p 0), .int (p : Int))]))
      simp only [List.set_cons_succ, List.set_cons_zero] at c6
      refine ⟨_, c6, ?_, by rw [List.length_append]; exact Nat.add_le_add_right hll 1, fun z => ?_⟩
      · rw [eadd 0, e1]
      · rw [valD_snoc54, hv z, List.range_succ, List.find?_append]
        cases e : (List.range p).find? fun x => decide (mk.getD x 0 = z) with
        | some y => simp
        | none =>
          by_cases w : mk.getD p 0 = z
          · subst w; simp [-List.getD_eq_getElem?_getD]
          · simp [-List.getD_eq_getElem?_getD, w]
  intro acc l c h3 hacc hI c3
  obtain ⟨rfl, _, _⟩ := hI
  rw [rangeD_length] at c3
  have em : ((((mk.map D.int).length : Nat) : Int)).toNat = sp.length := by simp [hmk]
  walk_at "go"
  refine c_new c3 (by simp) fun jF h4 c4 => ?_
  walk_at "go"
  have c5 : Cel h h4 ((jF, .lst ([c].map D.ref)) :: (js, .lst (nD P)) :: cellH sp mk P [c]) := by
    have e1 : cellH sp mk P [c] = [(c, .lst (nD (rng sp.length (cls sp mk P 0))))] := rfl
    rw [e1]
    have e2 : rng ((mk.length : Nat) : Int).toNat (cls sp mk P 0) = rng sp.length (cls sp mk P 0) := by rw [Int.toNat_natCast, hmk]
    have c4' := c4
    rw [e2] at c4'
    refine (c4'.sub (M := [(jF, MO.lst [D.ref c]), (c, MO.lst (nD (rng sp.length (cls sp mk P 0)))), (js, MO.lst (nD P))]) ?_).perm54 ?_
    · refine List.Sublist.cons_cons _ (List.Sublist.cons_cons _ ?_)
      exact List.sublist_cons_self _ _
    · exact List.Perm.cons _ (List.Perm.swap _ _ _)
  refine w_while (fun m ρ h' => ∃ (o4 o5 : Option D) (kc : List Nat), ρ = [some (gmD fs ns st sp mk), some (.ref js), some (.ref jk), some (.ref jF), o4, o5] ∧ Cel h h' ((jF, .lst (kc.map D.ref)) :: (js, .lst (nD P)) :: cellH sp mk P kc) ∧ 1 ≤ kc.length ∧ kc.length - 1 ≤ hds sp mk P sp.length (kc.length - 1) ∧ m = sp.length - hds sp mk P sp.length (kc.length - 1)) (sp.length - hds sp mk P sp.length 0) (by omega) ⟨none, none, [c], rfl, c5, Nat.le_refl _, Nat.zero_le _, rfl⟩ ?_
  rintro m ρ h5 ⟨o4, o5, kc, rfl, c6, hk1, hk2, rfl⟩
  walk_at "go"
  obtain ⟨K, hK⟩ : ∃ K, kc.length = K + 1 := ⟨kc.length - 1, by omega⟩
  rw [hK, Nat.add_sub_cancel] at hk2 ⊢
  have el := List.getElem?_eq_getElem (l := kc) (i := K) (by omega)
  generalize kc[K] = jl at el
  have gF := c6.atL 0 rfl
  have al : atI (kc.map D.ref) (-1) = some (.ref jl) := at_last54 (n := K) (by simp [hK]) (by rw [List.getElem?_map, el]; rfl)
  have gl5 := c6.atL (K + 2) (by rw [List.getElem?_cons_succ, List.getElem?_cons_succ]; exact cellH_at el)
  have gs5 := c6.atL 1 rfl
  walk_at "go"
  refine (k_finer54 gr hn gl5 gs5 hPm hPl).mono ?_
  rintro d h6 ⟨j, rfl, c7⟩
  have c8 := c6.trans c7
  have gF6 := pre_getL c7.pre gF
  have gj : getL h6 j = some ((rng sp.length (cls sp mk P (K + 1))).map (fun (z : Nat) => (z : Int)) |>.map D.int) := by
    rw [← nD_int]
    exact c7.atL 0 rfl
  have gl6 : getL h6 jl = some ((rng sp.length (cls sp mk P K)).map (fun (z : Nat) => (z : Int)) |>.map D.int) := by
    rw [← nD_int]
    exact pre_getL c7.pre gl5
  walk_at "go"
  refine w_eqK (scal_int.eqL gj gl6 (fun _ _ => trivial) fun _ _ => trivial) ?_
  have inj : ∀ a b : List Nat, (a.map fun (z : Nat) => (z : Int)) = (b.map fun (z : Nat) => (z : Int)) ↔ a = b := fun a b => List.map_inj_right fun x y e => by omega
  have hle := hds_le (sp := sp) (mk := mk) (P := P) sp.length K
  by_cases hst : Stab sp mk P sp.length K
  · have ee : rng sp.length (cls sp mk P (K + 1)) = rng sp.length (cls sp mk P K) := List.map_congr_left fun p hp => hst p (List.mem_range.mp hp)
    rw [decide_eq_true ((inj _ _).mpr ee)]
    walk_at "go"
    refine ⟨jF, kc, rfl, ?_, by omega, by omega, by rw [hK]; exact hst⟩
    refine (c8.sub (M := (jF, MO.lst (kc.map D.ref)) :: cellH sp mk P kc) ?_)
    refine (List.Sublist.cons_cons _ ?_).trans (List.sublist_append_right _ _)
    exact List.sublist_cons_self _ _
  · have ne : ¬ (rng sp.length (cls sp mk P (K + 1)) = rng sp.length (cls sp mk P K)) := fun e => hst fun p hp => by
      have := congrArg (fun l : List Nat => l[p]?) e
      simp only [rng, List.getElem?_map, List.getElem?_range hp, Option.map_some, Option.some.injEq] at this
      exact this
    rw [decide_eq_false fun e => ne ((inj _ _).mp e)]
    walk_at "go"
    have isF : isListD (.ref jF) h6 = true := c8.isL 1 rfl
    refine ⟨isF, ?_⟩
    walk_at "go"
    refine c_app c8 1 rfl (by simp; omega) fun h7 c9 => ?_
    obtain ⟨p, hp, hne⟩ : ∃ p, p < sp.length ∧ cls sp mk P (K + 1) p ≠ cls sp mk P K p := by
      refine Classical.byContradiction fun no => hst fun p hp => ?_
      exact Classical.byContradiction fun ne => no ⟨p, hp, ne⟩
    have hlt := hds_lt hp hne
    have hle1 := hds_le (sp := sp) (mk := mk) (P := P) sp.length (K + 1)
    have e2 : (kc ++ [j]).length = K + 2 := by simp [hK]
    refine ⟨sp.length - hds sp mk P sp.length (K + 1), by omega, _, _, kc ++ [j], rfl, ?_, by omega, by rw [e2, show K + 2 - 1 = K + 1 by omega]; omega, by rw [e2, show K + 2 - 1 = K + 1 by omega]⟩
    rw [cellH_snoc, hK, List.map_append]
    refine c9.perm54 ?_
    simp only [List.cons_append, List.nil_append, List.set_cons_succ, List.set_cons_zero]
    refine (List.Perm.swap _ _ _).trans (List.Perm.cons _ ?_)
    refine (List.Perm.swap _ _ _).trans (List.Perm.cons _ ?_)
    exact (List.perm_append_singleton _ _).symm
theorem k_alike54 {h : MH} (gr : Rows sp) (hn1 : 1 ≤ sp.length) (hn : sp.length ≤ 60) (hst : ∀ z ∈ st, 0 ≤ z ∧ z < (sp.length : Int)) (hmk : mk.length = sp.length) :
    Sat (m_alike_62182 [gmD fs ns st sp mk] h) (fun d h' => h <+: h' ∧ ∃ K, d = .tup (nD (rng sp.length (cls sp mk (parts54 st sp) K))) ∧ Stab sp mk (parts54 st sp) sp.length K) noX := by
  walk_at "fn"
  refine (k_rounds54 gr hn1 hn hst hmk).mono ?_
  rintro d h1 ⟨jF, kc, rfl, c1, hk1, hk2, hs⟩
  obtain ⟨K, hK⟩ : ∃ K, kc.length = K + 1 := ⟨kc.length - 1, by omega⟩
  rw [hK, Nat.add_sub_cancel] at hs
  have el := List.getElem?_eq_getElem (l := kc) (i := K) (by omega)
  generalize kc[K] = jl at el
  have gF := c1.atL 0 rfl
  have al : atI (kc.map D.ref) (-1) = some (.ref jl) := at_last54 (n := K) (by simp [hK]) (by rw [List.getElem?_map, el]; rfl)
  have gl := c1.atL (K + 1) (by rw [List.getElem?_cons_succ]; exact cellH_at el)
  walk_at "go"
  exact ⟨c1.pre, K, rfl, hs⟩
end
end Mi

namespace Mi
open PySem L2
local macro_rules | `(tactic| walk_at "gl") => `(tactic| first
  | assumption
  | (refine Own.atL (h0 := ?_) (L := ?_) ?_ 0 ?_; rotate_left; rotate_left; assumption; rfl)
  | (refine Own.atL (h0 := ?_) (L := ?_) ?_ 1 ?_; rotate_left; rotate_left; assumption; rfl)
  | (refine Own.atL (h0 := ?_) (L := ?_) ?_ 2 ?_; rotate_left; rotate_left; assumption; rfl)
  | (refine Own.atL (h0 := ?_) (L := ?_) ?_ 3 ?_; rotate_left; rotate_left; assumption; rfl)
  | (refine Own.atL (h0 := ?_) (L := ?_) ?_ 4 ?_; rotate_left; rotate_left; assumption; rfl)
  | (refine Own.atL (h0 := ?_) (L := ?_) ?_ 5 ?_; rotate_left; rotate_left; assumption; rfl)
  | (refine Own.atL (h0 := ?_) (L := ?_) ?_ 6 ?_; rotate_left; rotate_left; assumption; rfl)
  | (refine Own.atL (h0 := ?_) (L := ?_) ?_ 7 ?_; rotate_left; rotate_left; assumption; rfl)
  | (refine Own.atL (h0 := ?_) (L := ?_) ?_ 8 ?_; rotate_left; rotate_left; assumption; rfl)
  | (refine Own.atL (h0 := ?_) (L := ?_) ?_ 9 ?_; rotate_left; rotate_left; assumption; rfl)
  | (refine Own.getL (h0 := ?_) (L := ?_) ?_ ?_; rotate_left; rotate_left; assumption; assumption))
local macro_rules | `(tactic| walk_at "il") => `(tactic| first
  | (refine Own.isL (h0 := ?_) (L := ?_) (l := ?_) ?_ 0 ?_; rotate_left; rotate_left; rotate_left; assumption; rfl)
  | (refine Own.isL (h0 := ?_) (L := ?_) (l := ?_) ?_ 1 ?_; rotate_left; rotate_left; rotate_left; assumption; rfl)
  | (refine Own.isL (h0 := ?_) (L := ?_) (l := ?_) ?_ 2 ?_; rotate_left; rotate_left; rotate_left; assumption; rfl)
  | (refine Own.isL (h0 := ?_) (L := ?_) (l := ?_) ?_ 3 ?_; rotate_left; rotate_left; rotate_left; assumption; rfl)
  | (refine Own.isL (h0 := ?_) (L := ?_) (l := ?_) ?_ 4 ?_; rotate_left; rotate_left; rotate_left; assumption; rfl)
  | (refine Own.isL (h0 := ?_) (L := ?_) (l := ?_) ?_ 5 ?_; rotate_left; rotate_left; rotate_left; assumption; rfl)
  | (refine Own.isL (h0 := ?_) (L := ?_) (l := ?_) ?_ 6 ?_; rotate_left; rotate_left; rotate_left; assumption; rfl)
  | (refine Own.isL (h0 := ?_) (L := ?_) (l := ?_) ?_ 7 ?_; rotate_left; rotate_left; rotate_left; assumption; rfl)
  | (refine Own.isL (h0 := ?_) (L := ?_) (l := ?_) ?_ 8 ?_; rotate_left; rotate_left; rotate_left; assumption; rfl)
  | (refine Own.isL (h0 := ?_) (L := ?_) (l := ?_) ?_ 9 ?_; rotate_left; rotate_left; rotate_left; assumption; rfl))
local macro_rules | `(tactic| walk_at "bd") => `(tactic| first | assumption | omega | (simp; done) | (simp; omega) | (simp [*]; done) | (simp [*]; omega))
local macro_rules | `(tactic| walk_at "w") => `(tactic| first
  | with_reducible refine w_seq ?_
  | with_reducible refine w_asg ?_
  | with_reducible refine w_cons ?_
  | with_reducible refine w_nil ?_
  | with_reducible refine w_c ?_
  | ((with_reducible refine w_var (d := ?_) ?_ ?_); rotate_left; rfl)
  | with_reducible refine w_bin ?_
  | with_reducible refine w_call ?_
  | with_reducible refine w_if ?_
  | with_reducible refine w_B ?_
  | with_reducible refine w_unB ?_
  | with_reducible refine w_ret ?_
  | with_reducible refine w_drop ?_
  | with_reducible refine w_skip ?_
  | with_reducible refine w_eq (dAdd_int _ _ _) ?_
  | with_reducible refine w_eq (dSub_int _ _ _) ?_
  | with_reducible refine w_eq (dEq_int _ _ _) ?_
  | with_reducible refine w_eq (dEq_str _ _ _) ?_
  | with_reducible refine w_eq (dNe_strs _ _ _) ?_
  | with_reducible refine w_eq (dEq_bls _ _ _) ?_
  | with_reducible refine w_eq (dNe_bls _ _ _) ?_
  | with_reducible refine w_eq (dLt_int _ _ _) ?_
  | with_reducible refine w_eq (dLe_int _ _ _) ?_
  | with_reducible refine w_eq (dGt_int _ _ _) ?_
  | with_reducible refine w_eq (dGe_int _ _ _) ?_
  | with_reducible refine w_eq (dNe_int _ _ _) ?_
  | ((with_reducible refine w_mod ?_ ?_); (first | assumption | decide | omega))
  | ((with_reducible refine w_fdiv ?_ ?_); (first | assumption | decide | omega))
  | ((with_reducible refine w_mulS ?_ ?_); (first | decide | omega))
  | ((with_reducible refine w_addS ?_ ?_); (first | assumption | decide | omega))
  | ((with_reducible refine w_lenS ?_ ?_); (first | assumption | decide | omega))
  | ((with_reducible refine w_slS ?_ ?_); (first | assumption | decide | omega))
  | with_reducible refine w_lenTm ?_
  | with_reducible refine w_eq (dLen_tup _ _) ?_
  | with_reducible refine w_eq (dSl_tup _ _ _ _) ?_
  | with_reducible refine w_eq (dMax_ev _ _ _) ?_
  | with_reducible refine w_eq (dMin_ev _ _ _) ?_
  | with_reducible refine w_eq (dAbs_ev _ _) ?_
  | with_reducible refine w_not ?_
  | with_reducible refine w_and ?_
  | with_reducible refine w_or ?_
  | with_reducible refine br_n ?_
  | with_reducible refine br_tt ?_
  | with_reducible refine br_ff ?_
  | ((with_reducible refine br_dt ?_ ?_); (first | assumption | omega | rfl))
  | ((with_reducible refine br_df ?_ ?_); (first | assumption | omega))
  | with_reducible refine w_tup ?_
  | ((with_reducible refine w_toTup ?_ ?_); exact (by simp))
  | with_reducible refine w_lst ?_
  | with_reducible refine w_lc ?_
  | with_reducible refine w_for ?_
  | with_reducible refine w_range1 ?_
  | with_reducible refine w_range2 ?_
  | ((with_reducible refine w_dR1 ?_ ?_); (first | decide | omega))
  | ((with_reducible refine w_dR2 ?_ ?_); (first | decide | omega))
  | with_reducible refine w_iter ?_
  | with_reducible refine w_eq (iter1_tup _ _) ?_
  | with_reducible refine w_eq (iter1_str _ _) ?_
  | with_reducible refine w_sl ?_
  | with_reducible refine w_no ?_
  | with_reducible refine w_some ?_
  | with_reducible refine w_unI ?_
  | with_reducible refine w_meth ?_
  | with_reducible refine w_isi ?_
  | with_reducible refine w_zip ?_
  | with_reducible refine w_ifE ?_
  | with_reducible refine w_andV ?_
  | with_reducible refine w_orV ?_
  | with_reducible refine w_notV ?_
  | with_reducible refine w_andK ?_
  | with_reducible refine w_orK ?_
  | with_reducible refine w_notK ?_
  | with_reducible refine w_revL ?_
  | with_reducible refine w_listRg1 ?_
  | with_reducible refine w_tindex ?_
  | with_reducible refine w_setIx ?_
  | with_reducible refine w_un ?_
  | with_reducible refine w_rev1 ?_
  | with_reducible refine w_rev2 ?_
  | with_reducible refine w_chain ?_
  | with_reducible refine w_chK ?_
  | with_reducible refine w_retN ?_
  | with_reducible refine w_brk ?_
  | with_reducible refine w_cont ?_
  | with_reducible refine w_asgT ?_
  | with_reducible refine w_eq (isi_str_str _ _) ?_
  | with_reducible refine w_eq (isi_int_int _ _) ?_
  | with_reducible refine w_eq (isi_tup_tup _ _) ?_
  | with_reducible refine w_eq (isi_bool_int _ _) ?_
  | with_reducible refine w_eq (isi_str_int _ _) ?_
  | ((with_reducible refine w_lenLm (α := ?_) (f := ?_) (l := ?_) ?_ ?_); rotate_left; rotate_left; rotate_left; walk_at "gl")
  | ((with_reducible refine w_lenL (l := ?_) ?_ ?_); rotate_left; walk_at "gl")
  | ((with_reducible refine w_iterL (l := ?_) ?_ ?_); rotate_left; walk_at "gl"; dsimp only)
  | ((with_reducible refine w_tupL (l := ?_) ?_ ?_); rotate_left; walk_at "gl")
  | ((with_reducible refine w_ixT (d := ?_) ?_ ?_); rotate_left; (first | with_reducible assumption | rfl))
  | ((with_reducible refine w_ixL (l := ?_) (d := ?_) ?_ ?_ ?_); rotate_left; rotate_left; walk_at "gl"; (first | with_reducible assumption | rfl))
  | ((with_reducible refine w_addT ?_ ?_); walk_at "bd")
  | ((with_reducible refine ⟨?_, ?_⟩); (with_reducible (show isListD (.ref _) _ = true)); walk_at "il")
  | with_reducible refine w_tryK ?_
  | with_reducible refine w_raise ?_
  | with_reducible refine w_raise0 ?_
  | with_reducible refine w_isX ?_
  | ((with_reducible refine w_isXK (k := ?_) ?_ ?_); rotate_left; (first | with_reducible exact lkA | (apply lkB; decide +kernel; exact lkA) | (apply lkB; decide +kernel; apply lkB; decide +kernel; exact lkA) | (apply lkB; decide +kernel; apply lkB; decide +kernel; apply lkB; decide +kernel; exact lkA)))
  | with_reducible refine w_xf ?_
  | ((with_reducible refine w_xfK ?_ ?_ ?_); (exact List.mem_cons_self); (decide))
  | with_reducible refine w_eq (isN_xo _) ?_
  | with_reducible refine w_eq (dNeg_int _ _) ?_)
local macro_rules | `(tactic| walk_at "go") => `(tactic| (repeat (walk_at "w")); try dsimp only [List.set])
local macro_rules | `(tactic| walk_at "fn") => `(tactic| ((refine w_fun ?_); simp only [startD, List.map_cons, List.map_nil, List.reduceReplicate, Nat.reduceSub, List.cons_append, List.nil_append]; walk_at "go"))
local macro_rules | `(tactic| walk_at "w") => `(tactic| first
  | with_reducible refine w_eq (notN_non _) ?_
  | with_reducible refine w_eq (notN_int _ _) ?_
  | with_reducible refine w_eq (isN_non _) ?_
  | with_reducible refine w_eq (isN_int _ _) ?_)
theorem w_aset54 {N : SP} {T : D → MH → Prop} {B C : SP} {E : SX} {ρ : Slots} {h : MH} {o i e : ME} (q : Sat (e ρ h) (fun d h1 => Sat (o ρ h1) (fun x h2 => Sat (i ρ h2) (fun y h3 => Sat (dASet x y d h3) (fun _ h4 => N ρ h4) fun x fs h => E x fs ρ h) fun x fs h => E x fs ρ h) fun x fs h => E x fs ρ h) fun x fs h => E x fs ρ h) : OS (mASet o i e ρ h) N T B C E :=
  Sat.ot (q.monoE (fun _ _ z => Sat.ot (z.monoE (fun _ _ z => Sat.ot (z.monoE (fun _ _ z => Sat.ot (z.monoE (fun _ _ z => w_nx z) fun _ _ _ z => z)) fun _ _ _ z => z)) fun _ _ _ z => z)) fun _ _ _ z => z)
/-! ### what is reached -/
def kvT (ks : List Nat) : List (Key × D) := ks.map fun (s : Nat) => (.inl (s : Int), .bl true)
def addN (ks : List Nat) (s : Nat) : List Nat := if s ∈ ks then ks else ks ++ [s]
theorem kvT_put (ks : List Nat) (s : Nat) : putKD (kvT ks) (.inl (s : Int)) (.bl true) = kvT (addN ks s) := by
  unfold putKD addN
  have e : (kvT ks).any (fun kv => decide (kv.1 = .inl (s : Int))) = decide (s ∈ ks) := by
    rw [Bool.eq_iff_iff, List.any_eq_true]
    simp only [decide_eq_true_eq]
    unfold kvT
    constructor
    · rintro ⟨x, hx, e⟩
      obtain ⟨y, hy, rfl⟩ := List.mem_map.mp hx
      have := Sum.inl.inj e
      have : y = s := by omega
      exact this ▸ hy
    · intro h
      exact ⟨_, List.mem_map.mpr ⟨s, h, rfl⟩, rfl⟩
  rw [e]
  by_cases h : s ∈ ks
  · rw [if_pos (decide_eq_true h), if_pos h]
    unfold kvT
    rw [List.map_map]
    refine List.map_congr_left fun y hy => ?_
    simp only [Function.comp]
    split <;> rfl
  · rw [if_neg (by simp [h]), if_neg h]
    unfold kvT
    rw [List.map_append]
    rfl
theorem kvT_keys (ks : List Nat) : (kvT ks).map (fun p => kD p.1) = nD ks := by unfold kvT; rw [List.map_map]; rfl
theorem kvT_ints : ∀ ks : List Nat, intKeys (kvT ks) = some (ks.map fun (s : Nat) => (s : Int))
  | [] => rfl
  | s :: ks => by
    show Option.map _ (intKeys (kvT ks)) = _
    rw [kvT_ints ks]
    rfl
theorem addN_nd {ks : List Nat} {s : Nat} (h : ks.Nodup) : (addN ks s).Nodup := by
  unfold addN
  split
  · exact h
  · rename_i c
    rw [List.nodup_append]
    exact ⟨h, by simp, fun a ha b hb e => by simp at hb; subst hb e; exact c ha⟩
theorem addN_mem {ks : List Nat} {s x : Nat} : x ∈ addN ks s ↔ x ∈ ks ∨ x = s := by
  unfold addN
  split
  · rename_i c
    constructor
    · exact .inl
    · rintro (h | rfl)
      · exact h
      · exact c
  · simp
theorem addN_pre {ks : List Nat} {s : Nat} : ks <+: addN ks s := by
  unfold addN
  split
  · exact List.prefix_rfl
  · exact List.prefix_append _ _
def ClosedN (sp : List (List Int)) (ks : List Nat) : Prop := ∀ p ∈ ks, ∀ q ∈ ks, nx sp p q ∈ ks
section
variable {fs ns : List Str} {st : List Int} {sp : List (List Int)} {mk : List Int}
theorem k_reached54 {h : MH} (gr : Rows sp) (hn : sp.length ≤ 60) (hst : ∀ z ∈ st, 0 ≤ z ∧ z < (sp.length : Int)) (hmk : mk.length = sp.length) (hs1 : 1 ≤ st.length) :
    Sat (m_reached_2ae6f [gmD fs ns st sp mk] h) (fun d h' => ∃ j R, d = .ref j ∧ Cel h h' [(j, .lst (nD R))] ∧ ∀ s, s ∈ R ↔ Come st sp s) noX := by
  have lt : ∀ {s : Nat}, Come st sp s → s < sp.length := come_lt54 gr hst
  have len : ∀ ks : List Nat, ks.Nodup → (∀ s ∈ ks, Come st sp s) → ks.length ≤ sp.length := fun ks nd hc => by
    have := nd.length_le_of_subset (l₂ := List.range sp.length) fun s hs => List.mem_range.mpr (lt (hc s hs))
    simpa using this
  unfold gmD
  walk_at "fn"
  refine c_dict0 (Cel.nil h) fun jd h1 c1 => ?_
  walk_at "go"
  refine w_loop0 (fun k ρ h' => ∃ (o2 : Option D) (ks : List Nat), ρ = [some (gmD fs ns st sp mk), some (.ref jd), o2, none, none, none] ∧ Cel h h' [(jd, .dK (kvT ks))] ∧ ks.Nodup ∧ (∀ s ∈ ks, Come st sp s) ∧ ∀ s : Nat, (s : Int) ∈ st.take k → s ∈ ks) ⟨none, [], rfl, c1, List.nodup_nil, by simp, by simp⟩ (fun _ _ _ _ => rfl) ?_ ?_
  · rintro k d ρ h2 hd ⟨o2, ks, rfl, c2, nd, hc, hs⟩
    rw [List.getElem?_map, Option.map_eq_some_iff] at hd
    obtain ⟨z, ez, rfl⟩ := hd
    have hz := hst z (List.mem_of_getElem? ez)
    obtain ⟨s, rfl⟩ : ∃ s : Nat, z = (s : Int) := ⟨z.toNat, by omega⟩
    refine ⟨_, rfl, ?_⟩
    dsimp only [List.set]
    refine w_aset54 ?_
    walk_at "go"
    have hkl := len ks nd hc
    refine c_dSet (k := .inl (s : Int)) rfl c2 0 rfl (by unfold kvT; rw [List.length_map]; omega) fun h3 c3 => ?_
    rw [List.set_cons_zero, kvT_put] at c3
    refine ⟨_, addN ks s, rfl, c3, addN_nd nd, fun x hx => ?_, fun x hx => ?_⟩
    · rcases addN_mem.mp hx with q | rfl
      · exact hc x q
      · exact .start (List.mem_of_getElem? ez)
    · rw [take_snoc ez] at hx
      refine addN_mem.mpr ?_
      rcases List.mem_append.mp hx with q | q
      · exact .inl (hs x q)
      · rw [List.mem_singleton] at q; right; omega
  rintro ρ h2 ⟨o2, ks, rfl, c2, nd, hc, hs⟩
  rw [List.length_map, List.take_length] at hs
  have hk1 : 1 ≤ ks.length := by
    have h0 : st.getD 0 0 ∈ st := getD_mem (by omega)
    have hz := hst _ h0
    have := hs (st.getD 0 0).toNat (by rw [show (((st.getD 0 0).toNat : Nat) : Int) = st.getD 0 0 by omega]; exact h0)
    exact List.length_pos_of_mem this
  have lmk : (((mk.map D.int).length : Nat) : Int) = (sp.length : Int) := by simp [hmk]
  unfold gmD
  walk_at "go"
  refine w_loop0 (fun k ρ h' => ∃ (o3 o4 o5 : Option D) (ks : List Nat), ρ = [some (gmD fs ns st sp mk), some (.ref jd), o2, o3, o4, o5] ∧ Cel h h' [(jd, .dK (kvT ks))] ∧ ks.Nodup ∧ (∀ s ∈ ks, Come st sp s) ∧ (∀ s : Nat, (s : Int) ∈ st → s ∈ ks) ∧ (ClosedN sp ks ∨ k + 1 ≤ ks.length)) ⟨none, none, none, ks, rfl, c2, nd, hc, hs, .inr (by omega)⟩ (fun _ _ _ _ => rfl) ?_ ?_
  · clear c2 nd hc hs hk1 ks
    rintro k d ρ h3 hd ⟨o3, o4, o5, ks0, rfl, c3, nd0, hc0, hs0, hcl⟩
    have hkl0 := len ks0 nd0 hc0
    refine ⟨_, rfl, ?_⟩
    unfold gmD
    dsimp only [List.set]
    walk_at "go"
    refine w_listK (c3.at 0 rfl) ?_
    rw [kvT_keys]
    have c4 := c3.alloc (.lst (nD ks0))
    generalize h3 ++ [MO.lst (nD ks0)] = h4 at *
    generalize h3.length = jl at *
    have gl4 := c4.atL 0 rfl
    walk_at "go"
    refine w_loop0 (fun i ρ h' => ∃ (o4 o5 : Option D) (ks : List Nat), ρ = [some (gmD fs ns st sp mk), some (.ref jd), o2, some d, o4, o5] ∧ Cel h h' [(jl, .lst (nD ks0)), (jd, .dK (kvT ks))] ∧ ks.Nodup ∧ (∀ s ∈ ks, Come st sp s) ∧ ks0 <+: ks ∧ (∀ p ∈ ks0.take i, ∀ q ∈ ks0, nx sp p q ∈ ks) ∧ (ClosedN sp ks0 → ks = ks0)) ⟨_, _, ks0, rfl, c4, nd0, hc0, List.prefix_rfl, by simp, fun _ => rfl⟩ (fun i ρ h' ⟨_, _, _, _, c', _⟩ => decide_eq_true (c'.atL 0 rfl)) ?_ ?_
    · rintro i d' ρ h5 hd' ⟨o4, o5, ks1, rfl, c5, nd1, hc1, pre1, ha1, hb1⟩
      rw [List.getElem?_map, Option.map_eq_some_iff] at hd'
      obtain ⟨p, ep, rfl⟩ := hd'
      have hp0 := List.mem_of_getElem? ep
      have hp := lt (hc0 p hp0)
      have hkl1 := len ks1 nd1 hc1
      refine ⟨_, rfl, ?_⟩
      dsimp only [List.set]
      walk_at "go"
      refine w_listK (c5.at 1 rfl) ?_
      rw [kvT_keys]
      have c6 := c5.alloc (.lst (nD ks1))
      generalize h5 ++ [MO.lst (nD ks1)] = h6 at *
      generalize h5.length = jm at *
      have gm6 := c6.atL 0 rfl
      walk_at "go"
      refine w_loop0 (fun j ρ h' => ∃ (o5 : Option D) (ks : List Nat), ρ = [some (gmD fs ns st sp mk), some (.ref jd), o2, some d, some (.int (p : Int)), o5] ∧ Cel h h' [(jm, .lst (nD ks1)), (jl, .lst (nD ks0)), (jd, .dK (kvT ks))] ∧ ks.Nodup ∧ (∀ s ∈ ks, Come st sp s) ∧ ks1 <+: ks ∧ (∀ q ∈ ks1.take j, nx sp p q ∈ ks) ∧ (ClosedN sp ks0 → ks = ks0)) ⟨_, ks1, rfl, c6, nd1, hc1, List.prefix_rfl, by simp, hb1⟩ (fun i ρ h' ⟨_, _, _, c', _⟩ => decide_eq_true (c'.atL 0 rfl)) ?_ ?_
      · rintro j d2 ρ h7 hd2 ⟨o5, ks, rfl, c7, nd, hc, pre, ha, hb⟩
        rw [List.getElem?_map, Option.map_eq_some_iff] at hd2
        obtain ⟨q, eq, rfl⟩ := hd2
        have hq1 := List.mem_of_getElem? eq
        have hq := lt (hc1 q hq1)
        have hkl := len ks nd hc
        obtain ⟨row, r1, r2, r3⟩ := gr.at (p := p) (q := q) hp hq
        refine ⟨_, rfl, ?_⟩
        unfold gmD
        dsimp only [List.set]
        refine w_aset54 ?_
        walk_at "go"
        refine c_dSet (k := .inl ((nx sp p q : Nat) : Int)) rfl c7 2 rfl (by unfold kvT; rw [List.length_map]; omega) fun h8 c8 => ?_
        simp only [List.set_cons_succ, List.set_cons_zero] at c8
        rw [kvT_put] at c8
        refine ⟨_, addN ks (nx sp p q), rfl, c8, addN_nd nd, fun x hx => ?_, pre.trans addN_pre, fun x hx => ?_, fun cl => ?_⟩
        · rcases addN_mem.mp hx with z | rfl
          · exact hc x z
          · exact .step (hc0 p hp0) (hc1 q hq1)
        · rw [take_snoc eq] at hx
          refine addN_mem.mpr ?_
          rcases List.mem_append.mp hx with z | z
          · exact .inl (ha x z)
          · rw [List.mem_singleton] at z; subst z; exact .inr rfl
        · have e := hb cl
          have e1 := hb1 cl
          subst e
          unfold addN
          rw [if_pos (cl p hp0 q (by rw [← e1]; exact hq1))]
      · rintro ρ h7 ⟨o5, ks, rfl, c7, nd, hc, pre, ha, hb⟩
        rw [List.length_map, List.take_length] at ha
        refine ⟨_, _, ks, rfl, c7.tail, nd, hc, pre1.trans pre, fun x hx y hy => ?_, hb⟩
        rw [take_snoc ep] at hx
        rcases List.mem_append.mp hx with z | z
        · exact pre.subset (ha1 x z y hy)
        · rw [List.mem_singleton] at z
          subst z
          exact ha y (pre1.subset hy)
    · rintro ρ h5 ⟨o4, o5, ks1, rfl, c5, nd1, hc1, pre1, ha1, hb1⟩
      rw [List.length_map, List.take_length] at ha1
      refine ⟨_, _, _, ks1, rfl, c5.tail, nd1, hc1, fun s hs => pre1.subset (hs0 s hs), ?_⟩
      by_cases cl : ClosedN sp ks0
      · rw [hb1 cl]; exact .inl cl
      · right
        have hle : k + 1 ≤ ks0.length := by
          rcases hcl with c | c
          · exact absurd c cl
          · exact c
        have : ∃ p ∈ ks0, ∃ q ∈ ks0, nx sp p q ∉ ks0 := by
          refine Classical.byContradiction fun no => cl fun p hp q hq => ?_
          exact Classical.byContradiction fun ne => no ⟨p, hp, q, hq, ne⟩
        obtain ⟨p, hp, q, hq, ne⟩ := this
        have hin := ha1 p hp q hq
        have hlt : ks0.length < ks1.length := by
          rcases Nat.lt_or_ge ks0.length ks1.length with c | c
          · exact c
          · have := pre1.eq_of_length (Nat.le_antisymm pre1.length_le c)
            rw [this] at ne
            exact absurd hin ne
        omega
  · clear c2 nd hc hs hk1 ks
    rintro ρ h3 ⟨o3, o4, o5, ks, rfl, c3, nd, hc, hs, hcl⟩
    have hkl := len ks nd hc
    have cl : ClosedN sp ks := by
      rcases hcl with c | c
      · exact c
      · rw [rangeD_length] at c
        simp [hmk] at c
        omega
    walk_at "go"
    refine w_sortKI (c3.at 0 rfl) (kvT_ints ks) ?_
    have c4 := c3.alloc (.lst ((sortI (ks.map fun (s : Nat) => (s : Int))).map .int))
    refine ⟨_, (sortI (ks.map fun (s : Nat) => (s : Int))).map Int.toNat, rfl, ?_, fun s => ?_⟩
    · have e1 : nD ((sortI (ks.map fun (s : Nat) => (s : Int))).map Int.toNat) = (sortI (ks.map fun (s : Nat) => (s : Int))).map .int := by
        unfold nD
        rw [List.map_map]
        refine List.map_congr_left fun z hz => ?_
        have hm : z ∈ ks.map fun (s : Nat) => (s : Int) := (List.mergeSort_perm _ _).mem_iff.mp hz
        obtain ⟨s, _, rfl⟩ := List.mem_map.mp hm
        simp
      rw [e1]
      exact c4.sub (by simp)
    · have hm : ∀ z : Int, z ∈ sortI (ks.map fun (s : Nat) => (s : Int)) ↔ z ∈ ks.map fun (s : Nat) => (s : Int) := fun z => (List.mergeSort_perm _ _).mem_iff
      have h1 : s ∈ (sortI (ks.map fun (s : Nat) => (s : Int))).map Int.toNat ↔ s ∈ ks := by
        rw [List.mem_map]
        constructor
        · rintro ⟨z, hz, rfl⟩
          obtain ⟨x, hx, rfl⟩ := List.mem_map.mp ((hm z).mp hz)
          simpa using hx
        · intro hx
          exact ⟨(s : Int), (hm _).mpr (List.mem_map.mpr ⟨s, hx, rfl⟩), by simp⟩
      rw [h1]
      constructor
      · exact hc s
      · intro c
        clear h1
        induction c with
        | start h => exact hs _ h
        | step _ _ i1 i2 => exact cl _ i1 _ i2
end
end Mi

namespace Mi
open PySem L2
local macro_rules | `(tactic| walk_at "gl") => `(tactic| first
  | assumption
  | (refine Own.atL (h0 := ?_) (L := ?_) ?_ 0 ?_; rotate_left; rotate_left; assumption; rfl)
  | (refine Own.atL (h0 := ?_) (L := ?_) ?_ 1 ?_; rotate_left; rotate_left; assumption; rfl)
  | (refine Own.atL (h0 := ?_) (L := ?_) ?_ 2 ?_; rotate_left; rotate_left; assumption; rfl)
  | (refine Own.atL (h0 := ?_) (L := ?_) ?_ 3 ?_; rotate_left; rotate_left; assumption; rfl)
  | (refine Own.atL (h0 := ?_) (L := ?_) ?_ 4 ?_; rotate_left; rotate_left; assumption; rfl)
  | (refine Own.atL (h0 := ?_) (L := ?_) ?_ 5 ?_; rotate_left; rotate_left; assumption; rfl)
  | (refine Own.atL (h0 := ?_) (L := ?_) ?_ 6 ?_; rotate_left; rotate_left; assumption; rfl)
  | (refine Own.atL (h0 := ?_) (L := ?_) ?_ 7 ?_; rotate_left; rotate_left; assumption; rfl)
  | (refine Own.atL (h0 := ?_) (L := ?_) ?_ 8 ?_; rotate_left; rotate_left; assumption; rfl)
  | (refine Own.atL (h0 := ?_) (L := ?_) ?_ 9 ?_; rotate_left; rotate_left; assumption; rfl)
  | (refine Own.getL (h0 := ?_) (L := ?_) ?_ ?_; rotate_left; rotate_left; assumption; assumption))
local macro_rules | `(tactic| walk_at "il") => `(tactic| first
  | (refine Own.isL (h0 := ?_) (L := ?_) (l := ?_) ?_ 0 ?_; rotate_left; rotate_left; rotate_left; assumption; rfl)
  | (refine Own.isL (h0 := ?_) (L := ?_) (l := ?_) ?_ 1 ?_; rotate_left; rotate_left; rotate_left; assumption; rfl)
  | (refine Own.isL (h0 := ?_) (L := ?_) (l := ?_) ?_ 2 ?_; rotate_left; rotate_left; rotate_left; assumption; rfl)
  | (refine Own.isL (h0 := ?_) (L := ?_) (l := ?_) ?_ 3 ?_; rotate_left; rotate_left; rotate_left; assumption; rfl)
  | (refine Own.isL (h0 := ?_) (L := ?_) (l := ?_) ?_ 4 ?_; rotate_left; rotate_left; rotate_left; assumption; rfl)
  | (refine Own.isL (h0 := ?_) (L := ?_) (l := ?_) ?_ 5 ?_; rotate_left; rotate_left; rotate_left; assumption; rfl)
  | (refine Own.isL (h0 := ?_) (L := ?_) (l := ?_) ?_ 6 ?_; rotate_left; rotate_left; rotate_left; assumption; rfl)
  | (refine Own.isL (h0 := ?_) (L := ?_) (l := ?_) ?_ 7 ?_; rotate_left; rotate_left; rotate_left; assumption; rfl)
  | (refine Own.isL (h0 := ?_) (L := ?_) (l := ?_) ?_ 8 ?_; rotate_left; rotate_left; rotate_left; assumption; rfl)
  | (refine Own.isL (h0 := ?_) (L := ?_) (l := ?_) ?_ 9 ?_; rotate_left; rotate_left; rotate_left; assumption; rfl))
local macro_rules | `(tactic| walk_at "bd") => `(tactic| first | assumption | omega | (simp; done) | (simp; omega) | (simp [*]; done) | (simp [*]; omega))
local macro_rules | `(tactic| walk_at "w") => `(tactic| first
  | with_reducible refine w_seq ?_
  | with_reducible refine w_asg ?_
  | with_reducible refine w_cons ?_
  | with_reducible refine w_nil ?_
  | with_reducible refine w_c ?_
  | ((with_reducible refine w_var (d := ?_) ?_ ?_); rotate_left; rfl)
  | with_reducible refine w_bin ?_
  | with_reducible refine w_call ?_
  | with_reducible refine w_if ?_
  | with_reducible refine w_B ?_
  | with_reducible refine w_unB ?_
  | with_reducible refine w_ret ?_
  | with_reducible refine w_drop ?_
  | with_reducible refine w_skip ?_
  | with_reducible refine w_eq (dAdd_int _ _ _) ?_
  | with_reducible refine w_eq (dSub_int _ _ _) ?_
  | with_reducible refine w_eq (dEq_int _ _ _) ?_
  | with_reducible refine w_eq (dEq_str _ _ _) ?_
  | with_reducible refine w_eq (dNe_strs _ _ _) ?_
  | with_reducible refine w_eq (dEq_bls _ _ _) ?_
  | with_reducible refine w_eq (dNe_bls _ _ _) ?_
  | with_reducible refine w_eq (dLt_int _ _ _) ?_
  | with_reducible refine w_eq (dLe_int _ _ _) ?_
  | with_reducible refine w_eq (dGt_int _ _ _) ?_
  | with_reducible refine w_eq (dGe_int _ _ _) ?_
  | with_reducible refine w_eq (dNe_int _ _ _) ?_
  | ((with_reducible refine w_mod ?_ ?_); (first | assumption | decide | omega))
  | ((with_reducible refine w_fdiv ?_ ?_); (first | assumption | decide | omega))
  | ((with_reducible refine w_mulS ?_ ?_); (first | decide | omega))
  | ((with_reducible refine w_addS ?_ ?_); (first | assumption | decide | omega))
  | ((with_reducible refine w_lenS ?_ ?_); (first | assumption | decide | omega))
  | ((with_reducible refine w_slS ?_ ?_); (first | assumption | decide | omega))
  | with_reducible refine w_lenTm ?_
  | with_reducible refine w_eq (dLen_tup _ _) ?_
  | with_reducible refine w_eq (dSl_tup _ _ _ _) ?_
  | with_reducible refine w_eq (dMax_ev _ _ _) ?_
  | with_reducible refine w_eq (dMin_ev _ _ _) ?_
  | with_reducible refine w_eq (dAbs_ev _ _) ?_
  | with_reducible refine w_not ?_
  | with_reducible refine w_and ?_
  | with_reducible refine w_or ?_
  | with_reducible refine br_n ?_
  | with_reducible refine br_tt ?_
  | with_reducible refine br_ff ?_
  | ((with_reducible refine br_dt ?_ ?_); (first | assumption | omega | rfl))
  | ((with_reducible refine br_df ?_ ?_); (first | assumption | omega))
  | with_reducible refine w_tup ?_
  | ((with_reducible refine w_toTup ?_ ?_); exact (by simp))
  | with_reducible refine w_lst ?_
  | with_reducible refine w_lc ?_
  | with_reducible refine w_for ?_
  | with_reducible refine w_range1 ?_
  | with_reducible refine w_range2 ?_
  | ((with_reducible refine w_dR1 ?_ ?_); (first | decide | omega))
  | ((with_reducible refine w_dR2 ?_ ?_); (first | decide | omega))
  | with_reducible refine w_iter ?_
  | with_reducible refine w_eq (iter1_tup _ _) ?_
  | with_reducible refine w_eq (iter1_str _ _) ?_
  | with_reducible refine w_sl ?_
  | with_reducible refine w_no ?_
  | with_reducible refine w_some ?_
  | with_reducible refine w_unI ?_
  | with_reducible refine w_meth ?_
  | with_reducible refine w_isi ?_
  | with_reducible refine w_zip ?_
  | with_reducible refine w_ifE ?_
  | with_reducible refine w_andV ?_
  | with_reducible refine w_orV ?_
  | with_reducible refine w_notV ?_
  | with_reducible refine w_andK ?_
  | with_reducible refine w_orK ?_
  | with_reducible refine w_notK ?_
  | with_reducible refine w_revL ?_
  | with_reducible refine w_listRg1 ?_
  | with_reducible refine w_tindex ?_
  | with_reducible refine w_setIx ?_
  | with_reducible refine w_un ?_
  | with_reducible refine w_rev1 ?_
  | with_reducible refine w_rev2 ?_
  | with_reducible refine w_chain ?_
  | with_reducible refine w_chK ?_
  | with_reducible refine w_retN ?_
  | with_reducible refine w_brk ?_
  | with_reducible refine w_cont ?_
  | with_reducible refine w_asgT ?_
  | with_reducible refine w_eq (isi_str_str _ _) ?_
  | with_reducible refine w_eq (isi_int_int _ _) ?_
  | with_reducible refine w_eq (isi_tup_tup _ _) ?_
  | with_reducible refine w_eq (isi_bool_int _ _) ?_
  | with_reducible refine w_eq (isi_str_int _ _) ?_
  | ((with_reducible refine w_lenLm (α := ?_) (f := ?_) (l := ?_) ?_ ?_); rotate_left; rotate_left; rotate_left; walk_at "gl")
  | ((with_reducible refine w_lenL (l := ?_) ?_ ?_); rotate_left; walk_at "gl")
  | ((with_reducible refine w_iterL (l := ?_) ?_ ?_); rotate_left; walk_at "gl"; dsimp only)
  | ((with_reducible refine w_tupL (l := ?_) ?_ ?_); rotate_left; walk_at "gl")
  | ((with_reducible refine w_ixT (d := ?_) ?_ ?_); rotate_left; (first | with_reducible assumption | rfl))
  | ((with_reducible refine w_ixL (l := ?_) (d := ?_) ?_ ?_ ?_); rotate_left; rotate_left; walk_at "gl"; (first | with_reducible assumption | rfl))
  | ((with_reducible refine w_addT ?_ ?_); walk_at "bd")
  | ((with_reducible refine ⟨?_, ?_⟩); (with_reducible (show isListD (.ref _) _ = true)); walk_at "il")
  | with_reducible refine w_tryK ?_
  | with_reducible refine w_raise ?_
  | with_reducible refine w_raise0 ?_
  | with_reducible refine w_isX ?_
  | ((with_reducible refine w_isXK (k := ?_) ?_ ?_); rotate_left; (first | with_reducible exact lkA | (apply lkB; decide +kernel; exact lkA) | (apply lkB; decide +kernel; apply lkB; decide +kernel; exact lkA) | (apply lkB; decide +kernel; apply lkB; decide +kernel; apply lkB; decide +kernel; exact lkA)))
  | with_reducible refine w_xf ?_
  | ((with_reducible refine w_xfK ?_ ?_ ?_); (exact List.mem_cons_self); (decide))
  | with_reducible refine w_eq (isN_xo _) ?_
  | with_reducible refine w_eq (dNeg_int _ _) ?_)
local macro_rules | `(tactic| walk_at "go") => `(tactic| (repeat (walk_at "w")); try dsimp only [List.set])
local macro_rules | `(tactic| walk_at "fn") => `(tactic| ((refine w_fun ?_); simp only [startD, List.map_cons, List.map_nil, List.reduceReplicate, Nat.reduceSub, List.cons_append, List.nil_append]; walk_at "go"))
local macro_rules | `(tactic| walk_at "w") => `(tactic| first
  | with_reducible refine w_eq (notN_non _) ?_
  | with_reducible refine w_eq (notN_int _ _) ?_
  | with_reducible refine w_eq (isN_non _) ?_
  | with_reducible refine w_eq (isN_int _ _) ?_)
/-- the history in the heap -/
def Hist54 (sp : List (List Int)) (mk : List Int) (P : List Nat) (h : MH) (jF : Nat) (kc : List Nat) : Prop := getL h jF = some (kc.map D.ref) ∧ ∀ (k : Nat) j, kc[k]? = some j → getL h j = some (nD (rng sp.length (cls sp mk P k)))
section
variable {fs ns : List Str} {st : List Int} {sp : List (List Int)} {mk : List Int} {P : List Nat}
theorem Hist54.pre {h h' : MH} {jF : Nat} {kc : List Nat} (H : Hist54 sp mk P h jF kc) (p : h <+: h') : Hist54 sp mk P h' jF kc := ⟨pre_getL p H.1, fun k j e => pre_getL p (H.2 k j e)⟩
theorem Hist54.at {h : MH} {jF : Nat} {kc : List Nat} (H : Hist54 sp mk P h jF kc) {k : Nat} (hk : k < kc.length) : ∃ j, atI (kc.map D.ref) (k : Int) = some (.ref j) ∧ getL h j = some (nD (rng sp.length (cls sp mk P k))) := by
  have e := List.getElem?_eq_getElem hk
  exact ⟨kc[k], atI_at (by rw [List.getElem?_map, e]; rfl), H.2 k _ e⟩
theorem k_first54 {h : MH} {jF : Nat} {kc : List Nat} (H : Hist54 sp mk P h jF kc) (hkl : kc.length ≤ 61) {K : Nat} (hK : kc.length = K + 1) {p q : Nat} (hp : p < sp.length) (hq : q < sp.length) (hne : cls sp mk P K p ≠ cls sp mk P K q) :
    Sat (m_first_unlike_550e4 [.ref jF, .int (p : Int), .int (q : Int)] h) (fun d h' => h' = h ∧ ∃ k : Nat, d = .int (k : Int) ∧ k ≤ K ∧ cls sp mk P k p ≠ cls sp mk P k q ∧ ∀ j, j < k → cls sp mk P j p = cls sp mk P j q) noX := by
  walk_at "fn"
  refine w_while (fun m ρ h' => h' = h ∧ ∃ k : Nat, ρ = [some (.ref jF), some (.int (p : Int)), some (.int (q : Int)), some (.int (k : Int))] ∧ k ≤ K ∧ (∀ j, j < k → cls sp mk P j p = cls sp mk P j q) ∧ m = K - k) K (by omega) ⟨rfl, 0, rfl, Nat.zero_le _, fun j hj => by omega, rfl⟩ ?_
  rintro m ρ h' ⟨rfl, k, rfl, hk, he, rfl⟩
  obtain ⟨j, aj, gj⟩ := H.at (k := k) (by omega)
  have gF := H.1
  have ap : atI (nD (rng sp.length (cls sp mk P k))) (p : Int) = some (.int ((cls sp mk P k p : Nat) : Int)) := rng_at hp
  have aq : atI (nD (rng sp.length (cls sp mk P k))) (q : Int) = some (.int ((cls sp mk P k q : Nat) : Int)) := rng_at hq
  walk_at "go"
  refine br_d (fun c => ?_) (fun c => ?_)
  · have c' : cls sp mk P k p = cls sp mk P k q := by omega
    have hkK : k < K := by
      rcases Nat.lt_or_ge k K with z | z
      · exact z
      · have : k = K := by omega
        subst this
        exact absurd c' hne
    walk_at "go"
    refine ⟨K - (k + 1), by omega, rfl, k + 1, by rw [Int.natCast_add]; rfl, hkK, fun j hj => ?_, rfl⟩
    rcases Nat.lt_or_ge j k with z | z
    · exact he j z
    · have : j = k := by omega
      subst this
      exact c'
  · walk_at "go"
    exact ⟨rfl, k, rfl, hk, fun e => c (by rw [e]), he⟩
/-- one step of a way -/
def stp54 (sp : List (List Int)) (s : Nat) (w : Nat × Nat) : Nat := if w.1 = 0 then nx sp s w.2 else nx sp w.2 s
def stD (w : Nat × Nat) : D := .tup [.int (w.1 : Int), .int (w.2 : Int)]
theorem k_telling54 {h : MH} (gr : Rows sp) (hP : ∀ r ∈ P, r < sp.length) (hPl : P.length ≤ 60) {js jc : Nat} (gs : getL h js = some (nD P)) {c : Nat → Nat} (gc : getL h jc = some (nD (rng sp.length c))) {p q : Nat} (hp : p < sp.length) (hq : q < sp.length) (hne : ∃ r ∈ P, c (nx sp p r) ≠ c (nx sp q r) ∨ c (nx sp r p) ≠ c (nx sp r q)) :
    Sat (m_telling_step_31d40 [gmD fs ns st sp mk, .ref js, .ref jc, .int (p : Int), .int (q : Int)] h) (fun d h' => h' = h ∧ ∃ w : Nat × Nat, d = .tup [stD w, .int ((stp54 sp p w : Nat) : Int), .int ((stp54 sp q w : Nat) : Int)] ∧ w.1 ≤ 1 ∧ w.2 ∈ P ∧ c (stp54 sp p w) ≠ c (stp54 sp q w)) noX := by
  unfold gmD
  walk_at "fn"
  refine w_loop0 (fun k ρ h' => h' = h ∧ (∃ (o5 o6 o7 : Option D), ρ = [some (gmD fs ns st sp mk), some (.ref js), some (.ref jc), some (.int (p : Int)), some (.int (q : Int)), o5, o6, o7]) ∧ ∀ r ∈ P.take k, c (nx sp p r) = c (nx sp q r) ∧ c (nx sp r p) = c (nx sp r q)) ⟨rfl, ⟨none, none, none, rfl⟩, by simp⟩ (fun k ρ h' ⟨e, _⟩ => decide_eq_true (by rw [e]; exact gs)) ?_ ?_
  · rintro k d ρ h' hd ⟨rfl, ⟨o5, o6, o7, rfl⟩, hxk⟩
    rw [List.getElem?_map, Option.map_eq_some_iff] at hd
    obtain ⟨r, er, rfl⟩ := hd
    have hrP := List.mem_of_getElem? er
    have hr := hP r hrP
    obtain ⟨w1, p1, p2, p3⟩ := gr.at (p := p) (q := r) hp hr
    obtain ⟨w2, q1, q2, q3⟩ := gr.at (p := q) (q := r) hq hr
    obtain ⟨w3, r1, r2, r3⟩ := gr.at (p := r) (q := p) hr hp
    obtain ⟨w4, s1, s2, s3⟩ := gr.at (p := r) (q := q) hr hq
    have e34 : w4.map D.int = w3.map D.int := by
      rw [r1] at s1
      exact (D.tup.inj (Option.some.inj s1)).symm
    rw [e34] at s2
    clear s1 e34 w4
    have a1 : atI (nD (rng sp.length c)) ((nx sp p r : Nat) : Int) = some (.int ((c (nx sp p r) : Nat) : Int)) := rng_at p3
    have a2 : atI (nD (rng sp.length c)) ((nx sp q r : Nat) : Int) = some (.int ((c (nx sp q r) : Nat) : Int)) := rng_at q3
    have a3 : atI (nD (rng sp.length c)) ((nx sp r p : Nat) : Int) = some (.int ((c (nx sp r p) : Nat) : Int)) := rng_at r3
    have a4 : atI (nD (rng sp.length c)) ((nx sp r q : Nat) : Int) = some (.int ((c (nx sp r q) : Nat) : Int)) := rng_at s3
    refine ⟨_, rfl, ?_⟩
    unfold gmD
    dsimp only [List.set]
    walk_at "go"
    have h01 : (0 : Nat) ≠ 1 := by decide
    refine br_d (fun c1 => ?_) (fun c1 => ?_)
    · walk_at "go"
      refine br_d (fun c2 => ?_) (fun c2 => ?_)
      · walk_at "go"
        refine ⟨rfl, ⟨_, _, _, rfl⟩, fun x hx => ?_⟩
        rw [take_snoc er] at hx
        rcases List.mem_append.mp hx with z | z
        · exact hxk x z
        · rw [List.mem_singleton] at z
          subst z
          exact ⟨by omega, by omega⟩
      · walk_at "go"
        refine ⟨rfl, (1, r), rfl, Nat.le_refl _, hrP, ?_⟩
        show c (nx sp r p) ≠ c (nx sp r q)
        omega
    · walk_at "go"
      refine ⟨rfl, (0, r), rfl, Nat.zero_le _, hrP, ?_⟩
      show c (nx sp p r) ≠ c (nx sp q r)
      omega
  · rintro ρ h' ⟨rfl, _, hx⟩
    exfalso
    rw [List.length_map, List.take_length] at hx
    obtain ⟨r, hr, z⟩ := hne
    obtain ⟨a, b⟩ := hx r hr
    rcases z with z | z
    · exact z a
    · exact z b
def led54 (sp : List (List Int)) (w : List (Nat × Nat)) (s : Nat) : Nat := w.foldl (stp54 sp) s
theorem stp_lt54 (gr : Rows sp) {s : Nat} {w : Nat × Nat} (hs : s < sp.length) (hw : w.2 < sp.length) : stp54 sp s w < sp.length := by
  unfold stp54
  split
  · exact (gr.at hs hw).choose_spec.2.2
  · exact (gr.at hw hs).choose_spec.2.2
theorem k_apart54 {h : MH} (gr : Rows sp) (hn1 : 1 ≤ sp.length) (hn : sp.length ≤ 60) (hst : ∀ z ∈ st, 0 ≤ z ∧ z < (sp.length : Int)) (hmk : mk.length = sp.length) {p q : Nat} (hp : p < sp.length) (hq : q < sp.length) :
    Sat (m_apart_4d1da [gmD fs ns st sp mk, .int (p : Int), .int (q : Int)] h) (fun d h' => h <+: h' ∧ ∃ K, Stab sp mk (parts54 st sp) sp.length K ∧ ((cls sp mk (parts54 st sp) K p = cls sp mk (parts54 st sp) K q ∧ d = .non) ∨ (cls sp mk (parts54 st sp) K p ≠ cls sp mk (parts54 st sp) K q ∧ ∃ w : List (Nat × Nat), d = .tup (w.map stD) ∧ w.length ≤ 61 ∧ (∀ x ∈ w, x.1 ≤ 1 ∧ x.2 ∈ parts54 st sp) ∧ mk.getD (led54 sp w p) 0 ≠ mk.getD (led54 sp w q) 0))) noX := by
  walk_at "fn"
  refine (k_rounds54 gr hn1 hn hst hmk).mono ?_
  rintro d h1 ⟨jF, kc, rfl, c1, hk1, hk2, hs⟩
  obtain ⟨K, hK⟩ : ∃ K, kc.length = K + 1 := ⟨kc.length - 1, by omega⟩
  rw [hK, Nat.add_sub_cancel] at hs
  have hPm : ∀ r ∈ parts54 st sp, r < sp.length := fun r hr => (parts_mem.mp hr).1
  have hPl : (parts54 st sp).length ≤ 60 := by
    unfold parts54
    refine Nat.le_trans (List.length_filter_le _ _) ?_
    simp; omega
  have H1 : Hist54 sp mk (parts54 st sp) h1 jF kc := ⟨c1.atL 0 rfl, fun k j e => c1.atL (k + 1) (by rw [List.getElem?_cons_succ]; exact cellH_at e)⟩
  have el := List.getElem?_eq_getElem (l := kc) (i := K) (by omega)
  generalize kc[K] = jl at el
  have gF := H1.1
  have al : atI (kc.map D.ref) (-1) = some (.ref jl) := at_last54 (n := K) (by simp [hK]) (by rw [List.getElem?_map, el]; rfl)
  have gl := H1.2 K jl el
  have ap : atI (nD (rng sp.length (cls sp mk (parts54 st sp) K))) (p : Int) = some (.int ((cls sp mk (parts54 st sp) K p : Nat) : Int)) := rng_at hp
  have aq : atI (nD (rng sp.length (cls sp mk (parts54 st sp) K))) (q : Int) = some (.int ((cls sp mk (parts54 st sp) K q : Nat) : Int)) := rng_at hq
  walk_at "go"
  refine br_d (fun c => ?_) (fun c => ?_)
  · walk_at "go"
    exact ⟨c1.pre, K, hs, .inl ⟨by omega, rfl⟩⟩
  have hne : cls sp mk (parts54 st sp) K p ≠ cls sp mk (parts54 st sp) K q := by omega
  walk_at "go"
  refine o_new (Own.nil h1) (by simp) fun jw h2 o2 => ?_
  walk_at "go"
  refine (k_partners54 gr hn hst hmk).mono ?_
  rintro d h3 ⟨js, rfl, o3⟩
  have H3 := H1.pre (o2.pre.trans o3.pre)
  have o4 := o2.trans o3
  walk_at "go"
  refine (k_first54 H3 hk2 hK hp hq hne).mono ?_
  rintro d h4 ⟨rfl, k, rfl, hkK, hk, hke⟩
  walk_at "go"
  refine w_while (fun m ρ h' => ∃ (o7 : Option D) (p' q' k : Nat) (w : List (Nat × Nat)), ρ = [some (gmD fs ns st sp mk), some (.int (p' : Int)), some (.int (q' : Int)), some (.ref jF), some (.ref jw), some (.ref js), some (.int (k : Int)), o7] ∧ Own h1 h' [(js, nD (parts54 st sp)), (jw, w.map stD)] ∧ p' < sp.length ∧ q' < sp.length ∧ k ≤ K ∧ cls sp mk (parts54 st sp) k p' ≠ cls sp mk (parts54 st sp) k q' ∧ (∀ j, j < k → cls sp mk (parts54 st sp) j p' = cls sp mk (parts54 st sp) j q') ∧ led54 sp w p = p' ∧ led54 sp w q = q' ∧ (∀ x ∈ w, x.1 ≤ 1 ∧ x.2 ∈ parts54 st sp) ∧ w.length + k ≤ K ∧ m = k) k (by omega) ⟨none, p, q, k, [], rfl, o4, hp, hq, hkK, hk, hke, rfl, rfl, by simp, by simpa using hkK, rfl⟩ ?_
  clear hk hke hkK H3 o4 o3 o2 c ap aq
  rintro m ρ h5 ⟨o7, p', q', k, w, rfl, ow, hp', hq', hkK, hk, hke, lp, lq, hw, hwl, rfl⟩
  have H5 := H1.pre ow.pre
  walk_at "go"
  refine br_d (fun c => ?_) (fun c => ?_)
  · obtain ⟨k', rfl⟩ : ∃ k', m = k' + 1 := ⟨m - 1, by omega⟩
    obtain ⟨j, aj, gj⟩ := H5.at (k := k') (by omega)
    have e1 : ((k' + 1 : Nat) : Int) - 1 = (k' : Int) := by omega
    have gF5 := H5.1
    have gs5 := ow.atL 0 rfl
    have he := hke k' (by omega)
    have hex : ∃ r ∈ parts54 st sp, cls sp mk (parts54 st sp) k' (nx sp p' r) ≠ cls sp mk (parts54 st sp) k' (nx sp q' r) ∨ cls sp mk (parts54 st sp) k' (nx sp r p') ≠ cls sp mk (parts54 st sp) k' (nx sp r q') := by
      refine Classical.byContradiction fun no => hk (cls_step.mpr ⟨he, fun r hr => ?_⟩)
      refine ⟨Classical.byContradiction fun ne => no ⟨r, hr, .inl ne⟩, Classical.byContradiction fun ne => no ⟨r, hr, .inr ne⟩⟩
    walk_at "go"
    rw [e1]
    walk_at "go"
    refine (k_telling54 gr hPm hPl gs5 gj hp' hq' hex).mono ?_
    rintro d h6 ⟨rfl, x, rfl, hx1, hx2, hx3⟩
    have hx2l := hPm _ hx2
    have hp2 := stp_lt54 gr hp' hx2l
    have hq2 := stp_lt54 gr hq' hx2l
    have hK2 : cls sp mk (parts54 st sp) K (stp54 sp p' x) ≠ cls sp mk (parts54 st sp) K (stp54 sp q' x) := fun e => hx3 (cls_down e k' (by omega))
    refine ⟨_, rfl, ?_⟩
    dsimp only [List.set]
    walk_at "go"
    refine o_app ow 1 rfl (by simp; omega) fun h7 o7' => ?_
    simp only [List.set_cons_succ, List.set_cons_zero] at o7'
    have H7 := H1.pre o7'.pre
    walk_at "go"
    refine (k_first54 H7 hk2 hK hp2 hq2 hK2).mono ?_
    rintro d h8 ⟨rfl, k2, rfl, hk2K, hk2n, hk2e⟩
    have hlt : k2 ≤ k' := by
      rcases Nat.lt_or_ge k' k2 with z | z
      · exact absurd (hk2e k' z) hx3
      · exact z
    refine ⟨k2, by omega, _, stp54 sp p' x, stp54 sp q' x, k2, w ++ [x], rfl, by rw [List.map_append]; exact o7', hp2, hq2, hk2K, hk2n, hk2e, ?_, ?_, fun y hy => ?_, by simp; omega, rfl⟩
    · unfold led54 at lp ⊢
      rw [List.foldl_append, lp]; rfl
    · unfold led54 at lq ⊢
      rw [List.foldl_append, lq]; rfl
    · rcases List.mem_append.mp hy with z | z
      · exact hw y z
      · rw [List.mem_singleton] at z; subst z; exact ⟨hx1, hx2⟩
  · have hm0 : m = 0 := by omega
    subst hm0
    have gw := ow.atL 1 rfl
    walk_at "go"
    refine ⟨c1.pre.trans ow.pre, K, hs, .inr ⟨?_, w, rfl, by omega, hw, ?_⟩⟩
    · exact hne
    · rw [lp, lq]
      exact fun e => hk (cls_mk.mpr e)
end
end Mi

namespace Mi
open PySem L2
local macro_rules | `(tactic| walk_at "gl") => `(tactic| first
  | assumption
  | (refine Own.atL (h0 := ?_) (L := ?_) ?_ 0 ?_; rotate_left; rotate_left; assumption; rfl)
  | (refine Own.atL (h0 := ?_) (L := ?_) ?_ 1 ?_; rotate_left; rotate_left; assumption; rfl)
  | (refine Own.atL (h0 := ?_) (L := ?_) ?_ 2 ?_; rotate_left; rotate_left; assumption; rfl)
  | (refine Own.atL (h0 := ?_) (L := ?_) ?_ 3 ?_; rotate_left; rotate_left; assumption; rfl)
  | (refine Own.atL (h0 := ?_) (L := ?_) ?_ 4 ?_; rotate_left; rotate_left; assumption; rfl)
  | (refine Own.atL (h0 := ?_) (L := ?_) ?_ 5 ?_; rotate_left; rotate_left; assumption; rfl)
  | (refine Own.atL (h0 := ?_) (L := ?_) ?_ 6 ?_; rotate_left; rotate_left; assumption; rfl)
  | (refine Own.atL (h0 := ?_) (L := ?_) ?_ 7 ?_; rotate_left; rotate_left; assumption; rfl)
  | (refine Own.atL (h0 := ?_) (L := ?_) ?_ 8 ?_; rotate_left; rotate_left; assumption; rfl)
  | (refine Own.atL (h0 := ?_) (L := ?_) ?_ 9 ?_; rotate_left; rotate_left; assumption; rfl)
  | (refine Own.getL (h0 := ?_) (L := ?_) ?_ ?_; rotate_left; rotate_left; assumption; assumption))
local macro_rules | `(tactic| walk_at "il") => `(tactic| first
  | (refine Own.isL (h0 := ?_) (L := ?_) (l := ?_) ?_ 0 ?_; rotate_left; rotate_left; rotate_left; assumption; rfl)
  | (refine Own.isL (h0 := ?_) (L := ?_) (l := ?_) ?_ 1 ?_; rotate_left; rotate_left; rotate_left; assumption; rfl)
  | (refine Own.isL (h0 := ?_) (L := ?_) (l := ?_) ?_ 2 ?_; rotate_left; rotate_left; rotate_left; assumption; rfl)
  | (refine Own.isL (h0 := ?_) (L := ?_) (l := ?_) ?_ 3 ?_; rotate_left; rotate_left; rotate_left; assumption; rfl)
  | (refine Own.isL (h0 := ?_) (L := ?_) (l := ?_) ?_ 4 ?_; rotate_left; rotate_left; rotate_left; assumption; rfl)
  | (refine Own.isL (h0 := ?_) (L := ?_) (l := ?_) ?_ 5 ?_; rotate_left; rotate_left; rotate_left; assumption; rfl)
  | (refine Own.isL (h0 := ?_) (L := ?_) (l := ?_) ?_ 6 ?_; rotate_left; rotate_left; rotate_left; assumption; rfl)
  | (refine Own.isL (h0 := ?_) (L := ?_) (l := ?_) ?_ 7 ?_; rotate_left; rotate_left; rotate_left; assumption; rfl)
  | (refine Own.isL (h0 := ?_) (L := ?_) (l := ?_) ?_ 8 ?_; rotate_left; rotate_left; rotate_left; assumption; rfl)
  | (refine Own.isL (h0 := ?_) (L := ?_) (l := ?_) ?_ 9 ?_; rotate_left; rotate_left; rotate_left; assumption; rfl))
local macro_rules | `(tactic| walk_at "bd") => `(tactic| first | assumption | omega | (simp; done) | (simp; omega) | (simp [*]; done) | (simp [*]; omega))
local macro_rules | `(tactic| walk_at "w") => `(tactic| first
  | with_reducible refine w_seq ?_
  | with_reducible refine w_asg ?_
  | with_reducible refine w_cons ?_
  | with_reducible refine w_nil ?_
  | with_reducible refine w_c ?_
  | ((with_reducible refine w_var (d := ?_) ?_ ?_); rotate_left; rfl)
  | with_reducible refine w_bin ?_
  | with_reducible refine w_call ?_
  | with_reducible refine w_if ?_
  | with_reducible refine w_B ?_
  | with_reducible refine w_unB ?_
  | with_reducible refine w_ret ?_
  | with_reducible refine w_drop ?_
  | with_reducible refine w_skip ?_
  | with_reducible refine w_eq (dAdd_int _ _ _) ?_
  | with_reducible refine w_eq (dSub_int _ _ _) ?_
  | with_reducible refine w_eq (dEq_int _ _ _) ?_
  | with_reducible refine w_eq (dEq_str _ _ _) ?_
  | with_reducible refine w_eq (dNe_strs _ _ _) ?_
  | with_reducible refine w_eq (dEq_bls _ _ _) ?_
  | with_reducible refine w_eq (dNe_bls _ _ _) ?_
  | with_reducible refine w_eq (dLt_int _ _ _) ?_
  | with_reducible refine w_eq (dLe_int _ _ _) ?_
  | with_reducible refine w_eq (dGt_int _ _ _) ?_
  | with_reducible refine w_eq (dGe_int _ _ _) ?_
  | with_reducible refine w_eq (dNe_int _ _ _) ?_
  | ((with_reducible refine w_mod ?_ ?_); (first | assumption | decide | omega))
  | ((with_reducible refine w_fdiv ?_ ?_); (first | assumption | decide | omega))
  | ((with_reducible refine w_mulS ?_ ?_); (first | decide | omega))
  | ((with_reducible refine w_addS ?_ ?_); (first | assumption | decide | omega))
  | ((with_reducible refine w_lenS ?_ ?_); (first | assumption | decide | omega))
  | ((with_reducible refine w_slS ?_ ?_); (first | assumption | decide | omega))
  | with_reducible refine w_lenTm ?_
  | with_reducible refine w_eq (dLen_tup _ _) ?_
  | with_reducible refine w_eq (dSl_tup _ _ _ _) ?_
  | with_reducible refine w_eq (dMax_ev _ _ _) ?_
  | with_reducible refine w_eq (dMin_ev _ _ _) ?_
  | with_reducible refine w_eq (dAbs_ev _ _) ?_
  | with_reducible refine w_not ?_
  | with_reducible refine w_and ?_
  | with_reducible refine w_or ?_
  | with_reducible refine br_n ?_
  | with_reducible refine br_tt ?_
  | with_reducible refine br_ff ?_
  | ((with_reducible refine br_dt ?_ ?_); (first | assumption | omega | rfl))
  | ((with_reducible refine br_df ?_ ?_); (first | assumption | omega))
  | with_reducible refine w_tup ?_
  | ((with_reducible refine w_toTup ?_ ?_); exact (by simp))
  | with_reducible refine w_lst ?_
  | with_reducible refine w_lc ?_
  | with_reducible refine w_for ?_
  | with_reducible refine w_range1 ?_
  | with_reducible refine w_range2 ?_
  | ((with_reducible refine w_dR1 ?_ ?_); (first | decide | omega))
  | ((with_reducible refine w_dR2 ?_ ?_); (first | decide | omega))
  | with_reducible refine w_iter ?_
  | with_reducible refine w_eq (iter1_tup _ _) ?_
  | with_reducible refine w_eq (iter1_str _ _) ?_
  | with_reducible refine w_sl ?_
  | with_reducible refine w_no ?_
  | with_reducible refine w_some ?_
  | with_reducible refine w_unI ?_
  | with_reducible refine w_meth ?_
  | with_reducible refine w_isi ?_
  | with_reducible refine w_zip ?_
  | with_reducible refine w_ifE ?_
  | with_reducible refine w_andV ?_
  | with_reducible refine w_orV ?_
  | with_reducible refine w_notV ?_
  | with_reducible refine w_andK ?_
  | with_reducible refine w_orK ?_
  | with_reducible refine w_notK ?_
  | with_reducible refine w_revL ?_
  | with_reducible refine w_listRg1 ?_
  | with_reducible refine w_tindex ?_
  | with_reducible refine w_setIx ?_
  | with_reducible refine w_un ?_
  | with_reducible refine w_rev1 ?_
  | with_reducible refine w_rev2 ?_
  | with_reducible refine w_chain ?_
  | with_reducible refine w_chK ?_
  | with_reducible refine w_retN ?_
  | with_reducible refine w_brk ?_
  | with_reducible refine w_cont ?_
  | with_reducible refine w_asgT ?_
  | with_reducible refine w_eq (isi_str_str _ _) ?_
  | with_reducible refine w_eq (isi_int_int _ _) ?_
  | with_reducible refine w_eq (isi_tup_tup _ _) ?_
  | with_reducible refine w_eq (isi_bool_int _ _) ?_
  | with_reducible refine w_eq (isi_str_int _ _) ?_
  | ((with_reducible refine w_lenLm (α := ?_) (f := ?_) (l := ?_) ?_ ?_); rotate_left; rotate_left; rotate_left; walk_at "gl")
  | ((with_reducible refine w_lenL (l := ?_) ?_ ?_); rotate_left; walk_at "gl")
  | ((with_reducible refine w_iterL (l := ?_) ?_ ?_); rotate_left; walk_at "gl"; dsimp only)
  | ((with_reducible refine w_tupL (l := ?_) ?_ ?_); rotate_left; walk_at "gl")
  | ((with_reducible refine w_ixT (d := ?_) ?_ ?_); rotate_left; (first | with_reducible assumption | rfl))
  | ((with_reducible refine w_ixL (l := ?_) (d := ?_) ?_ ?_ ?_); rotate_left; rotate_left; walk_at "gl"; (first | with_reducible assumption | rfl))
  | ((with_reducible refine w_addT ?_ ?_); walk_at "bd")
  | ((with_reducible refine ⟨?_, ?_⟩); (with_reducible (show isListD (.ref _) _ = true)); walk_at "il")
  | with_reducible refine w_tryK ?_
  | with_reducible refine w_raise ?_
  | with_reducible refine w_raise0 ?_
  | with_reducible refine w_isX ?_
  | ((with_reducible refine w_isXK (k := ?_) ?_ ?_); rotate_left; (first | with_reducible exact lkA | (apply lkB; decide +kernel; exact lkA) | (apply lkB; decide +kernel; apply lkB; decide +kernel; exact lkA) | (apply lkB; decide +kernel; apply lkB; decide +kernel; apply lkB; decide +kernel; exact lkA)))
  | with_reducible refine w_xf ?_
  | ((with_reducible refine w_xfK ?_ ?_ ?_); (exact List.mem_cons_self); (decide))
  | with_reducible refine w_eq (isN_xo _) ?_
  | with_reducible refine w_eq (dNeg_int _ _) ?_)
local macro_rules | `(tactic| walk_at "go") => `(tactic| (repeat (walk_at "w")); try dsimp only [List.set])
local macro_rules | `(tactic| walk_at "fn") => `(tactic| ((refine w_fun ?_); simp only [startD, List.map_cons, List.map_nil, List.reduceReplicate, Nat.reduceSub, List.cons_append, List.nil_append]; walk_at "go"))
local macro_rules | `(tactic| walk_at "w") => `(tactic| first
  | with_reducible refine w_eq (notN_non _) ?_
  | with_reducible refine w_eq (notN_int _ _) ?_
  | with_reducible refine w_eq (isN_non _) ?_
  | with_reducible refine w_eq (isN_int _ _) ?_)
theorem inD_ints {x : Int} {l : List Int} {b : D} {h : MH} (e : seqOf h b = some (l.map .int)) (hb : ∀ z, b ≠ .str z) : inD (.int x) b h = some (decide (x ∈ l)) := by
  have h1 : ((l.map D.int).all flatD) = true := by
    rw [List.all_eq_true]
    intro d hd
    obtain ⟨y, _, rfl⟩ := List.mem_map.mp hd
    rfl
  have h2 : ((l.map D.int).any fun y => eqF y (.int x)) = decide (x ∈ l) := by
    rw [Bool.eq_iff_iff, List.any_eq_true, decide_eq_true_iff]
    constructor
    · rintro ⟨d, hd, e⟩
      obtain ⟨y, hy, rfl⟩ := List.mem_map.mp hd
      have : y = x := by simpa [eqF] using e
      exact this ▸ hy
    · intro hx
      exact ⟨.int x, List.mem_map.mpr ⟨x, hx, rfl⟩, by simp [eqF]⟩
  cases b with
  | str z => exact absurd rfl (hb z)
  | _ => simp only [inD, e, flatD, h1, and_self, if_true, h2]
section
variable {fs ns : List Str} {st : List Int} {sp : List (List Int)} {mk : List Int}
def sh0 (st : List Int) (t : Tb) (s : Nat) : Bool := decide ((s : Int) ∈ st) && decide (t[s]? = some (some 1))
def hit (sp : List (List Int)) (t : Tb) (p q : Nat) : Prop := ∃ a b, t[p]? = some (some a) ∧ t[q]? = some (some b) ∧ t[nx sp p q]? = some (some (a + b))
end
end Mi

namespace Mi
open PySem L2
local macro_rules | `(tactic| walk_at "gl") => `(tactic| first
  | assumption
  | (refine Own.atL (h0 := ?_) (L := ?_) ?_ 0 ?_; rotate_left; rotate_left; assumption; rfl)
  | (refine Own.atL (h0 := ?_) (L := ?_) ?_ 1 ?_; rotate_left; rotate_left; assumption; rfl)
  | (refine Own.atL (h0 := ?_) (L := ?_) ?_ 2 ?_; rotate_left; rotate_left; assumption; rfl)
  | (refine Own.atL (h0 := ?_) (L := ?_) ?_ 3 ?_; rotate_left; rotate_left; assumption; rfl)
  | (refine Own.atL (h0 := ?_) (L := ?_) ?_ 4 ?_; rotate_left; rotate_left; assumption; rfl)
  | (refine Own.atL (h0 := ?_) (L := ?_) ?_ 5 ?_; rotate_left; rotate_left; assumption; rfl)
  | (refine Own.atL (h0 := ?_) (L := ?_) ?_ 6 ?_; rotate_left; rotate_left; assumption; rfl)
  | (refine Own.atL (h0 := ?_) (L := ?_) ?_ 7 ?_; rotate_left; rotate_left; assumption; rfl)
  | (refine Own.atL (h0 := ?_) (L := ?_) ?_ 8 ?_; rotate_left; rotate_left; assumption; rfl)
  | (refine Own.atL (h0 := ?_) (L := ?_) ?_ 9 ?_; rotate_left; rotate_left; assumption; rfl)
  | (refine Own.getL (h0 := ?_) (L := ?_) ?_ ?_; rotate_left; rotate_left; assumption; assumption))
local macro_rules | `(tactic| walk_at "il") => `(tactic| first
  | (refine Own.isL (h0 := ?_) (L := ?_) (l := ?_) ?_ 0 ?_; rotate_left; rotate_left; rotate_left; assumption; rfl)
  | (refine Own.isL (h0 := ?_) (L := ?_) (l := ?_) ?_ 1 ?_; rotate_left; rotate_left; rotate_left; assumption; rfl)
  | (refine Own.isL (h0 := ?_) (L := ?_) (l := ?_) ?_ 2 ?_; rotate_left; rotate_left; rotate_left; assumption; rfl)
  | (refine Own.isL (h0 := ?_) (L := ?_) (l := ?_) ?_ 3 ?_; rotate_left; rotate_left; rotate_left; assumption; rfl)
  | (refine Own.isL (h0 := ?_) (L := ?_) (l := ?_) ?_ 4 ?_; rotate_left; rotate_left; rotate_left; assumption; rfl)
  | (refine Own.isL (h0 := ?_) (L := ?_) (l := ?_) ?_ 5 ?_; rotate_left; rotate_left; rotate_left; assumption; rfl)
  | (refine Own.isL (h0 := ?_) (L := ?_) (l := ?_) ?_ 6 ?_; rotate_left; rotate_left; rotate_left; assumption; rfl)
  | (refine Own.isL (h0 := ?_) (L := ?_) (l := ?_) ?_ 7 ?_; rotate_left; rotate_left; rotate_left; assumption; rfl)
  | (refine Own.isL (h0 := ?_) (L := ?_) (l := ?_) ?_ 8 ?_; rotate_left; rotate_left; rotate_left; assumption; rfl)
  | (refine Own.isL (h0 := ?_) (L := ?_) (l := ?_) ?_ 9 ?_; rotate_left; rotate_left; rotate_left; assumption; rfl))
local macro_rules | `(tactic| walk_at "bd") => `(tactic| first | assumption | omega | (simp; done) | (simp; omega) | (simp [*]; done) | (simp [*]; omega))
local macro_rules | `(tactic| walk_at "w") => `(tactic| first
  | with_reducible refine w_seq ?_
  | with_reducible refine w_asg ?_
  | with_reducible refine w_cons ?_
  | with_reducible refine w_nil ?_
  | with_reducible refine w_c ?_
  | ((with_reducible refine w_var (d := ?_) ?_ ?_); rotate_left; rfl)
  | with_reducible refine w_bin ?_
  | with_reducible refine w_call ?_
  | with_reducible refine w_if ?_
  | with_reducible refine w_B ?_
  | with_reducible refine w_unB ?_
  | with_reducible refine w_ret ?_
  | with_reducible refine w_drop ?_
  | with_reducible refine w_skip ?_
  | with_reducible refine w_eq (dAdd_int _ _ _) ?_
  | with_reducible refine w_eq (dSub_int _ _ _) ?_
  | with_reducible refine w_eq (dEq_int _ _ _) ?_
  | with_reducible refine w_eq (dEq_str _ _ _) ?_
  | with_reducible refine w_eq (dNe_strs _ _ _) ?_
  | with_reducible refine w_eq (dEq_bls _ _ _) ?_
  | with_reducible refine w_eq (dNe_bls _ _ _) ?_
  | with_reducible refine w_eq (dLt_int _ _ _) ?_
  | with_reducible refine w_eq (dLe_int _ _ _) ?_
  | with_reducible refine w_eq (dGt_int _ _ _) ?_
  | with_reducible refine w_eq (dGe_int _ _ _) ?_
  | with_reducible refine w_eq (dNe_int _ _ _) ?_
  | ((with_reducible refine w_mod ?_ ?_); (first | assumption | decide | omega))
  | ((with_reducible refine w_fdiv ?_ ?_); (first | assumption | decide | omega))
  | ((with_reducible refine w_mulS ?_ ?_); (first | decide | omega))
  | ((with_reducible refine w_addS ?_ ?_); (first | assumption | decide | omega))
  | ((with_reducible refine w_lenS ?_ ?_); (first | assumption | decide | omega))
  | ((with_reducible refine w_slS ?_ ?_); (first | assumption | decide | omega))
  | with_reducible refine w_lenTm ?_
  | with_reducible refine w_eq (dLen_tup _ _) ?_
  | with_reducible refine w_eq (dSl_tup _ _ _ _) ?_
  | with_reducible refine w_eq (dMax_ev _ _ _) ?_
  | with_reducible refine w_eq (dMin_ev _ _ _) ?_
  | with_reducible refine w_eq (dAbs_ev _ _) ?_
  | with_reducible refine w_not ?_
  | with_reducible refine w_and ?_
  | with_reducible refine w_or ?_
  | with_reducible refine br_n ?_
  | with_reducible refine br_tt ?_
  | with_reducible refine br_ff ?_
  | ((with_reducible refine br_dt ?_ ?_); (first | assumption | omega | rfl))
  | ((with_reducible refine br_df ?_ ?_); (first | assumption | omega))
  | with_reducible refine w_tup ?_
  | ((with_reducible refine w_toTup ?_ ?_); exact (by simp))
  | with_reducible refine w_lst ?_
  | with_reducible refine w_lc ?_
  | with_reducible refine w_for ?_
  | with_reducible refine w_range1 ?_
  | with_reducible refine w_range2 ?_
  | ((with_reducible refine w_dR1 ?_ ?_); (first | decide | omega))
  | ((with_reducible refine w_dR2 ?_ ?_); (first | decide | omega))
  | with_reducible refine w_iter ?_
  | with_reducible refine w_eq (iter1_tup _ _) ?_
  | with_reducible refine w_eq (iter1_str _ _) ?_
  | with_reducible refine w_sl ?_
  | with_reducible refine w_no ?_
  | with_reducible refine w_some ?_
  | with_reducible refine w_unI ?_
  | with_reducible refine w_meth ?_
  | with_reducible refine w_isi ?_
  | with_reducible refine w_zip ?_
  | with_reducible refine w_ifE ?_
  | with_reducible refine w_andV ?_
  | with_reducible refine w_orV ?_
  | with_reducible refine w_notV ?_
  | with_reducible refine w_andK ?_
  | with_reducible refine w_orK ?_
  | with_reducible refine w_notK ?_
  | with_reducible refine w_revL ?_
  | with_reducible refine w_listRg1 ?_
  | with_reducible refine w_tindex ?_
  | with_reducible refine w_setIx ?_
  | with_reducible refine w_un ?_
  | with_reducible refine w_rev1 ?_
  | with_reducible refine w_rev2 ?_
  | with_reducible refine w_chain ?_
  | with_reducible refine w_chK ?_
  | with_reducible refine w_retN ?_
  | with_reducible refine w_brk ?_
  | with_reducible refine w_cont ?_
  | with_reducible refine w_asgT ?_
  | with_reducible refine w_eq (isi_str_str _ _) ?_
  | with_reducible refine w_eq (isi_int_int _ _) ?_
  | with_reducible refine w_eq (isi_tup_tup _ _) ?_
  | with_reducible refine w_eq (isi_bool_int _ _) ?_
  | with_reducible refine w_eq (isi_str_int _ _) ?_
  | ((with_reducible refine w_lenLm (α := ?_) (f := ?_) (l := ?_) ?_ ?_); rotate_left; rotate_left; rotate_left; walk_at "gl")
  | ((with_reducible refine w_lenL (l := ?_) ?_ ?_); rotate_left; walk_at "gl")
  | ((with_reducible refine w_iterL (l := ?_) ?_ ?_); rotate_left; walk_at "gl"; dsimp only)
  | ((with_reducible refine w_tupL (l := ?_) ?_ ?_); rotate_left; walk_at "gl")
  | ((with_reducible refine w_ixT (d := ?_) ?_ ?_); rotate_left; (first | with_reducible assumption | rfl))
  | ((with_reducible refine w_ixL (l := ?_) (d := ?_) ?_ ?_ ?_); rotate_left; rotate_left; walk_at "gl"; (first | with_reducible assumption | rfl))
  | ((with_reducible refine w_addT ?_ ?_); walk_at "bd")
  | ((with_reducible refine ⟨?_, ?_⟩); (with_reducible (show isListD (.ref _) _ = true)); walk_at "il")
  | with_reducible refine w_tryK ?_
  | with_reducible refine w_raise ?_
  | with_reducible refine w_raise0 ?_
  | with_reducible refine w_isX ?_
  | ((with_reducible refine w_isXK (k := ?_) ?_ ?_); rotate_left; (first | with_reducible exact lkA | (apply lkB; decide +kernel; exact lkA) | (apply lkB; decide +kernel; apply lkB; decide +kernel; exact lkA) | (apply lkB; decide +kernel; apply lkB; decide +kernel; apply lkB; decide +kernel; exact lkA)))
  | with_reducible refine w_xf ?_
  | ((with_reducible refine w_xfK ?_ ?_ ?_); (exact List.mem_cons_self); (decide))
  | with_reducible refine w_eq (isN_xo _) ?_
  | with_reducible refine w_eq (dNeg_int _ _) ?_)
local macro_rules | `(tactic| walk_at "go") => `(tactic| (repeat (walk_at "w")); try dsimp only [List.set])
local macro_rules | `(tactic| walk_at "fn") => `(tactic| ((refine w_fun ?_); simp only [startD, List.map_cons, List.map_nil, List.reduceReplicate, Nat.reduceSub, List.cons_append, List.nil_append]; walk_at "go"))
local macro_rules | `(tactic| walk_at "w") => `(tactic| first
  | with_reducible refine w_eq (notN_non _) ?_
  | with_reducible refine w_eq (notN_int _ _) ?_
  | with_reducible refine w_eq (isN_non _) ?_
  | with_reducible refine w_eq (isN_int _ _) ?_)
theorem w_ninLi54 {x : Int} {l : List Int} {i : Nat} {h : MH} {Q : D → MH → Prop} {E : XE} (e : getL h i = some (l.map .int)) (q : Q (.bl (!decide (x ∈ l))) h) : Sat (dNotIn (.int x) (.ref i) h) Q E := w_eq (by simp only [dNotIn, inD_ints (x := x) (l := l) (b := .ref i) (h := h) e (fun z => by simp)]) q
theorem lea_congr {α : Type} [DecidableEq α] {k k' : Nat → α} {p : Nat} (h : ∀ x, x ≤ p → k x = k' x) : lea k p = lea k' p := by
  unfold lea
  rw [h p (Nat.le_refl _)]
  congr 1
  have : ∀ l : List Nat, (∀ x ∈ l, x ≤ p) → l.find? (fun x => decide (k x = k' p)) = l.find? fun x => decide (k' x = k' p) := fun l => by
    induction l with
    | nil => intro _; rfl
    | cons a l ih =>
      intro ha
      rw [List.find?_cons, List.find?_cons, h a (ha a List.mem_cons_self), ih fun x hx => ha x (List.mem_cons_of_mem _ hx)]
  exact this _ fun x hx => Nat.le_of_lt (List.mem_range.mp hx)
section
variable {fs ns : List Str} {st : List Int} {sp : List (List Int)} {mk : List Int} {P : List Nat}
theorem nx_lt54 (gr : Rows sp) {p q : Nat} (hp : p < sp.length) (hq : q < sp.length) : nx sp p q < sp.length := (gr.at hp hq).choose_spec.2.2
theorem stab_step (gr : Rows sp) (hP : ∀ r ∈ P, r < sp.length) {k : Nat} (h : Stab sp mk P sp.length k) : Stab sp mk P sp.length (k + 1) := fun p hp => by
  show lea (keyF sp P (cls sp mk P (k + 1))) p = lea (keyF sp P (cls sp mk P k)) p
  refine lea_congr fun x hx => ?_
  unfold keyF
  rw [h x (by omega)]
  congr 1
  have : ∀ l : List Nat, (∀ r ∈ l, r < sp.length) → (l.flatMap fun r => [cls sp mk P (k + 1) (nx sp x r), cls sp mk P (k + 1) (nx sp r x)]) = l.flatMap fun r => [cls sp mk P k (nx sp x r), cls sp mk P k (nx sp r x)] := fun l => by
    induction l with
    | nil => intro _; rfl
    | cons a l ih =>
      intro ha
      have h1 := ha a List.mem_cons_self
      rw [List.flatMap_cons, List.flatMap_cons, ih fun r hr => ha r (List.mem_cons_of_mem _ hr), h _ (nx_lt54 gr (by omega) h1), h _ (nx_lt54 gr h1 (by omega))]
  exact this P hP
theorem stab_far (gr : Rows sp) (hP : ∀ r ∈ P, r < sp.length) {k : Nat} (h : Stab sp mk P sp.length k) : ∀ (j p : Nat), p < sp.length → cls sp mk P (k + j) p = cls sp mk P k p ∧ Stab sp mk P sp.length (k + j)
  | 0, p, _ => ⟨rfl, h⟩
  | j + 1, p, hp => by
    obtain ⟨a, b⟩ := stab_far gr hP h j p hp
    exact ⟨(b p hp).trans a, stab_step gr hP b⟩
theorem stab_eq (gr : Rows sp) (hP : ∀ r ∈ P, r < sp.length) {k k' : Nat} (h : Stab sp mk P sp.length k) (h' : Stab sp mk P sp.length k') {p : Nat} (hp : p < sp.length) : cls sp mk P k p = cls sp mk P k' p := by
  rcases Nat.le_total k k' with c | c
  · have := (stab_far gr hP h (k' - k) p hp).1
    rw [show k + (k' - k) = k' by omega] at this
    exact this.symm
  · have := (stab_far gr hP h' (k - k') p hp).1
    rw [show k' + (k - k') = k by omega] at this
    exact this
theorem k_led54 {h : MH} (gr : Rows sp) {w : List (Nat × Nat)} (hw : ∀ x ∈ w, x.2 < sp.length) {s : Nat} (hs : s < sp.length) :
    Sat (m_led_80fb4 [gmD fs ns st sp mk, .tup (w.map stD), .int (s : Int)] h) (fun d h' => h' = h ∧ d = .int ((led54 sp w s : Nat) : Int) ∧ led54 sp w s < sp.length) noX := by
  walk_at "fn"
  refine w_loop0 (fun k ρ h' => h' = h ∧ ∃ (o3 o4 : Option D), ρ = [some (gmD fs ns st sp mk), some (.tup (w.map stD)), some (.int ((led54 sp (w.take k) s : Nat) : Int)), o3, o4] ∧ led54 sp (w.take k) s < sp.length) ⟨rfl, none, none, rfl, hs⟩ (fun _ _ _ _ => rfl) ?_ ?_
  · rintro k d ρ h' hd ⟨rfl, o3, o4, rfl, hl⟩
    rw [List.getElem?_map, Option.map_eq_some_iff] at hd
    obtain ⟨x, ex, rfl⟩ := hd
    have hx := hw x (List.mem_of_getElem? ex)
    obtain ⟨w1, p1, p2, p3⟩ := gr.at hl hx
    obtain ⟨w2, q1, q2, q3⟩ := gr.at hx hl
    have e1 : led54 sp (w.take (k + 1)) s = stp54 sp (led54 sp (w.take k) s) x := by
      rw [take_snoc ex]
      unfold led54
      rw [List.foldl_append]
      rfl
    rw [e1]
    have hlt := stp_lt54 gr hl hx
    generalize led54 sp (w.take k) s = u at *
    refine ⟨_, rfl, ?_⟩
    unfold gmD
    dsimp only [List.set]
    unfold stp54 at hlt ⊢
    walk_at "go"
    refine br_d (fun c => ?_) (fun c => ?_)
    · walk_at "go"
      rw [if_pos (by omega)] at hlt ⊢
      exact ⟨rfl, _, _, rfl, hlt⟩
    · walk_at "go"
      rw [if_neg (by omega)] at hlt ⊢
      exact ⟨rfl, _, _, rfl, hlt⟩
  · rintro ρ h' ⟨rfl, o3, o4, rfl, hl⟩
    rw [List.length_map, List.take_length] at *
    walk_at "go"
    exact ⟨rfl, rfl, hl⟩
theorem k_whole54 {a : Int} {h : MH} : Sat (m_whole_05e23 [.int a] h) (fun d h' => h' = h ∧ d = .bl true) noX := by
  walk_at "fn"
  exact ⟨rfl, rfl⟩
theorem k_way54 {h : MH} (gr : Rows sp) (hmk : mk.length = sp.length) {R : List Nat} {jR : Nat} (gR : getL h jR = some (nD R)) {w : List (Nat × Nat)} (hw : ∀ x ∈ w, x.1 ≤ 1 ∧ x.2 ∈ R ∧ x.2 < sp.length) {p q : Nat} (hp : p < sp.length) (hq : q < sp.length) (hne : mk.getD (led54 sp w p) 0 ≠ mk.getD (led54 sp w q) 0) :
    Sat (m_way_035bf [.tup (w.map stD), gmD fs ns st sp mk, .ref jR, .int (p : Int), .int (q : Int)] h) (fun d h' => h <+: h' ∧ d = .bl true) noX := by
  walk_at "fn"
  refine w_loop0 (fun k ρ h' => h <+: h' ∧ ∃ (o5 : Option D), ρ = [some (.tup (w.map stD)), some (gmD fs ns st sp mk), some (.ref jR), some (.int (p : Int)), some (.int (q : Int)), o5, none]) ⟨List.prefix_rfl, none, rfl⟩ (fun _ _ _ _ => rfl) ?_ ?_
  · rintro k d ρ h1 hd ⟨p1, o5, rfl⟩
    rw [List.getElem?_map, Option.map_eq_some_iff] at hd
    obtain ⟨x, ex, rfl⟩ := hd
    obtain ⟨hx1, hx2, hx3⟩ := hw x (List.mem_of_getElem? ex)
    refine ⟨_, rfl, ?_⟩
    dsimp only [List.set]
    unfold stD
    walk_at "go"
    refine o_comp (fun _ y => y = .bl true) (Own.nil h1) (by simp) (fun _ _ => rfl) ?_ ?_
    · intro i d h2 hd hp2
      have : ∃ a : Int, d = .int a := by
        have hm := List.mem_of_getElem? hd
        simp at hm
        rcases hm with rfl | rfl
        · exact ⟨_, rfl⟩
        · exact ⟨_, rfl⟩
      obtain ⟨a, rfl⟩ := this
      refine ⟨_, rfl, ?_⟩
      dsimp only [wipeD, List.set]
      walk_at "go"
      exact k_whole54
    intro ys hy hys jl h2 o2
    have ey : ys = (List.replicate ys.length true).map D.bl := by
      refine List.ext_getElem (by simp) fun i a b => ?_
      rw [hys i _ (List.getElem?_eq_getElem a)]
      simp
    rw [ey] at o2
    walk_at "go"
    refine w_all (o2.atL 0 rfl) ?_
    have gR2 := pre_getL (p1.trans o2.pre) gR
    rw [nD_int] at gR2
    have er : (List.replicate ys.length true).all id = true := by simp
    rw [er]
    walk_at "go"
    refine w_ninLi54 gR2 ?_
    rw [decide_eq_true (List.mem_map.mpr ⟨x.2, hx2, rfl⟩)]
    walk_at "go"
    exact ⟨p1.trans o2.pre, _, rfl⟩
  · rintro ρ h1 ⟨p1, o5, rfl⟩
    have hw2 : ∀ x ∈ w, x.2 < sp.length := fun x hx => (hw x hx).2.2
    refine w_ret ?_
    refine w_bin ?_
    unfold gmD
    walk_at "go"
    refine (k_led54 (fs := fs) (ns := ns) (st := st) (mk := mk) gr hw2 hp).mono ?_
    rintro d h2 ⟨rfl, rfl, lp⟩
    have a1 : atI (mk.map D.int) ((led54 sp w p : Nat) : Int) = some (.int (mk.getD (led54 sp w p) 0)) := at_nat (by omega)
    walk_at "go"
    refine (k_led54 (fs := fs) (ns := ns) (st := st) (mk := mk) gr hw2 hq).mono ?_
    rintro d h3 ⟨rfl, rfl, lq⟩
    have a2 : atI (mk.map D.int) ((led54 sp w q : Nat) : Int) = some (.int (mk.getD (led54 sp w q) 0)) := at_nat (by omega)
    walk_at "go"
    refine ⟨p1, ?_⟩
    rw [decide_eq_false hne]
    rfl
theorem k_classes54 {h : MH} (gr : Rows sp) (hn : sp.length ≤ 60) (hmk : mk.length = sp.length) {R : List Nat} {jR : Nat} (gR : getL h jR = some (nD R)) (hR : ∀ r ∈ R, r ∈ P ∧ r < sp.length) {K : Nat} (hs : Stab sp mk P sp.length K) :
    Sat (m_classes_a41b6 [.tup (nD (rng sp.length (cls sp mk P K))), gmD fs ns st sp mk, .ref jR] h) (fun d h' => h <+: h' ∧ d = .bl true) noX := by
  have lr : (rng sp.length (cls sp mk P K)).length = sp.length := by simp
  unfold gmD
  walk_at "fn"
  refine o_comp (fun _ y => y = .bl true) (Own.nil h) (by simp; omega) (fun _ _ => rfl) ?_ ?_
  · intro i d h2 hd hp2
    rw [List.getElem?_map, Option.map_eq_some_iff] at hd
    obtain ⟨a, _, rfl⟩ := hd
    refine ⟨_, rfl, ?_⟩
    dsimp only [wipeD, List.set]
    walk_at "go"
    exact k_whole54
  intro ys hy hys jl h2 o2
  have ey : ys = (List.replicate ys.length true).map D.bl := by
    refine List.ext_getElem (by simp) fun i a b => ?_
    rw [hys i _ (List.getElem?_eq_getElem a)]
    simp
  rw [ey] at o2
  walk_at "go"
  refine w_all (o2.atL 0 rfl) ?_
  have er : (List.replicate ys.length true).all id = true := by simp
  rw [er]
  walk_at "go"
  refine w_loop0 (fun k ρ h' => h' = h2 ∧ ∃ (o4 o5 o6 : Option D), ρ = [some (.tup (nD (rng sp.length (cls sp mk P K)))), some (gmD fs ns st sp mk), some (.ref jR), some (.int (mk.length : Int)), o4, o5, o6]) ⟨rfl, _, _, _, rfl⟩ (fun _ _ _ _ => rfl) ?_ ?_
  · rintro p d ρ h3 hd ⟨rfl, o4, o5, o6, rfl⟩
    obtain ⟨hp, rfl⟩ := rangeD_get hd
    have hp' : p < sp.length := by simp at hp; omega
    rw [show (0 : Int) + (p : Int) = (p : Int) by omega]
    have hhl := cls_le (sp := sp) (mk := mk) (P := P) K p
    have hhh := cls_head (sp := sp) (mk := mk) (P := P) K p
    have hst : cls sp mk P (K + 1) (cls sp mk P K p) = cls sp mk P (K + 1) p := by
      have e1 := hs p hp'
      have e2 := cls_head (sp := sp) (mk := mk) (P := P) (K + 1) p
      rw [e1] at e2 ⊢
      exact e2
    have hstp := (cls_step.mp hst).2
    have hm0 : mk.getD (cls sp mk P K p) 0 = mk.getD p 0 := cls_mk.mp (cls_down hhh 0 (Nat.zero_le _))
    have ap : atI (nD (rng sp.length (cls sp mk P K))) (p : Int) = some (.int ((cls sp mk P K p : Nat) : Int)) := rng_at hp'
    have ah : atI (nD (rng sp.length (cls sp mk P K))) ((cls sp mk P K p : Nat) : Int) = some (.int ((cls sp mk P K (cls sp mk P K p) : Nat) : Int)) := rng_at (by omega)
    rw [hhh] at ah
    have am1 : atI (mk.map D.int) ((cls sp mk P K p : Nat) : Int) = some (.int (mk.getD (cls sp mk P K p) 0)) := at_nat (by omega)
    have am2 : atI (mk.map D.int) (p : Int) = some (.int (mk.getD p 0)) := at_nat (by omega)
    rw [hm0] at am1
    generalize eu : cls sp mk P K p = u at *
    have gR3 := pre_getL o2.pre gR
    refine ⟨_, rfl, ?_⟩
    unfold gmD
    dsimp only [List.set]
    walk_at "go"
    refine w_loop0 (fun k ρ h' => h' = h3 ∧ ∃ (o6 : Option D), ρ = [some (.tup (nD (rng sp.length (cls sp mk P K)))), some (gmD fs ns st sp mk), some (.ref jR), some (.int (mk.length : Int)), some (.int (p : Int)), some (.int (u : Int)), o6]) ⟨rfl, _, rfl⟩ (fun k ρ h' ⟨e, _⟩ => decide_eq_true (by rw [e]; exact gR3)) ?_ ?_
    · rintro k d ρ h4 hd ⟨rfl, o6, rfl⟩
      rw [List.getElem?_map, Option.map_eq_some_iff] at hd
      obtain ⟨r, er, rfl⟩ := hd
      obtain ⟨hrP, hr⟩ := hR r (List.mem_of_getElem? er)
      obtain ⟨s1, s2⟩ := hstp r hrP
      have hu : u < sp.length := by omega
      obtain ⟨w1, p1, p2, p3⟩ := gr.at (p := p) (q := r) hp' hr
      obtain ⟨w2, q1, q2, q3⟩ := gr.at (p := u) (q := r) hu hr
      obtain ⟨w3, r1, r2, r3⟩ := gr.at (p := r) (q := p) hr hp'
      obtain ⟨w4, s1', s2', s3⟩ := gr.at (p := r) (q := u) hr hu
      have e34 : w4.map D.int = w3.map D.int := by
        rw [r1] at s1'
        exact (D.tup.inj (Option.some.inj s1')).symm
      rw [e34] at s2'
      clear s1' e34 w4
      have a1 : atI (nD (rng sp.length (cls sp mk P K))) ((nx sp p r : Nat) : Int) = some (.int ((cls sp mk P K (nx sp p r) : Nat) : Int)) := rng_at p3
      have a2 : atI (nD (rng sp.length (cls sp mk P K))) ((nx sp u r : Nat) : Int) = some (.int ((cls sp mk P K (nx sp u r) : Nat) : Int)) := rng_at q3
      have a3 : atI (nD (rng sp.length (cls sp mk P K))) ((nx sp r p : Nat) : Int) = some (.int ((cls sp mk P K (nx sp r p) : Nat) : Int)) := rng_at r3
      have a4 : atI (nD (rng sp.length (cls sp mk P K))) ((nx sp r u : Nat) : Int) = some (.int ((cls sp mk P K (nx sp r u) : Nat) : Int)) := rng_at s3
      rw [s1] at a2
      rw [s2] at a4
      refine ⟨_, rfl, ?_⟩
      unfold gmD
      dsimp only [List.set]
      walk_at "go"
      exact ⟨rfl, _, rfl⟩
    · rintro ρ h4 ⟨rfl, o6, rfl⟩
      exact ⟨rfl, _, _, _, rfl⟩
  · rintro ρ h3 ⟨rfl, o4, o5, o6, rfl⟩
    walk_at "go"
    exact ⟨o2.pre, rfl⟩
end
theorem cut_ints54 (zs : List Int) (a b : Nat) : ∃ m : List Int, cutD (zs.map D.int) (some (a : Int)) (some (b : Int)) = m.map D.int ∧ (∀ z ∈ m, z ∈ zs) ∧ m.length ≤ zs.length := by
  unfold cutD
  rw [HT.sIx_nat, HT.sIx_nat]
  refine ⟨(zs.drop (min a (zs.map D.int).length)).take (min b (zs.map D.int).length - min a (zs.map D.int).length), by rw [List.map_take, List.map_drop], fun z hz => List.mem_of_mem_drop (List.mem_of_mem_take hz), ?_⟩
  rw [List.length_take, List.length_drop]
  omega
theorem main_k54 : ∀ ns : List Int, ns.length ≤ 63 → (∀ z ∈ ns, Builtin.Int.intBits z ≤ 1048576) → ∃ h', m_law_a349c [.ref 0] [.rol (ns.map D.int)] = .ok (.bl true) h' := by
  intro zs hn hb
  suffices hh : Sat (m_law_a349c [.ref 0] [.rol (zs.map D.int)]) (fun d h' => d = .bl true) noX by
    obtain ⟨d, h', e, rfl⟩ := hh.get
    exact ⟨h', e⟩
  have hb' : ∀ z ∈ zs, Cell z := hb
  generalize hh0 : [MO.rol (zs.map D.int)] = h0
  have g0 : getL h0 0 = some (zs.map D.int) := by rw [← hh0]; rfl
  clear hh0
  walk_at "fn"
  refine (k_one54 hb' hn g0).mono ?_
  rintro d h1 ⟨p1, fs, ns, st, sp, mk, rfl, M⟩
  have g := M.g
  have gr : Rows sp := ⟨g.row⟩
  have hmk := g.mkl
  have hn22 := g.nm
  have hn1 := g.n1
  walk_at "go"
  refine (k_reached54 (fs := fs) (ns := ns) gr (by omega) g.stv hmk (by have := g.stl; omega)).mono ?_
  rintro d h2 ⟨jR, R, rfl, c2, hR⟩
  walk_at "go"
  refine (k_alike54 (fs := fs) (ns := ns) gr hn1 (by omega) g.stv hmk).mono ?_
  rintro d h3 ⟨p3, K, rfl, hs⟩
  have hPm : ∀ r ∈ parts54 st sp, r < sp.length := fun r hr => (parts_mem.mp hr).1
  have hRP : ∀ r ∈ R, r ∈ parts54 st sp ∧ r < sp.length := fun r hr => by
    have := come_lt54 gr g.stv ((hR r).mp hr)
    exact ⟨parts_mem.mpr ⟨this, (hR r).mp hr⟩, this⟩
  have gR3 := pre_getL p3 (c2.atL 0 rfl)
  walk_at "go"
  refine (k_classes54 (fs := fs) (ns := ns) (st := st) gr (by omega) hmk gR3 hRP hs).mono ?_
  rintro d h4 ⟨p4, rfl⟩
  have g4 := pre_getL ((p1.trans c2.pre).trans (p3.trans p4)) g0
  have gR4 := pre_getL p4 gR3
  unfold gmD
  walk_at "go"
  refine o_comp (fun _ y => ∃ p q : Nat, y = .tup [.int (p : Int), .int (q : Int)] ∧ p < sp.length ∧ q < sp.length) (Own.nil h4) (by rw [rangeD_length]; split <;> omega) (fun _ _ => rfl) ?_ ?_
  · intro k d h5 hd hp5
    obtain ⟨hk, rfl⟩ := rangeD_get hd
    have hk' : k < sp.length := by
      have : k < (if (8 : Int) < (mk.length : Int) then (8 : Int) else (mk.length : Int)).toNat := hk
      split at this <;> omega
    rw [show (0 : Int) + (k : Int) = (k : Int) by omega]
    have g5 := pre_getL hp5 g4
    refine ⟨_, rfl, ?_⟩
    dsimp only [wipeD, List.set]
    walk_at "go"
    refine (c_cell_at hb' g5 (by decide)).mono ?_
    rintro d h6 ⟨rfl, c2', rfl, _⟩
    walk_at "go"
    have hm := mod_in ((k : Int) + 1 + c2' / 4) (n := (mk.length : Int)) (by omega)
    refine ⟨rfl, k, (((k : Int) + 1 + c2' / 4) % (mk.length : Int)).toNat, ?_, hk', by omega⟩
    rw [show (((((k : Int) + 1 + c2' / 4) % (mk.length : Int)).toNat : Nat) : Int) = ((k : Int) + 1 + c2' / 4) % (mk.length : Int) by omega]
  intro ys hy hys jp h5 o5
  have hys' : ∀ y ∈ ys, ∃ p q : Nat, y = .tup [.int (p : Int), .int (q : Int)] ∧ p < sp.length ∧ q < sp.length := fun y hy => by
    obtain ⟨k, hk⟩ := List.mem_iff_getElem?.mp hy
    exact hys k y hk
  have hyl : ys.length ≤ 100 := by
    rw [hy, rangeD_length]
    split <;> omega
  clear hys hy
  walk_at "go"
  refine o_sl o5 (o5.getL g4) fun jc h6 o6 => ?_
  obtain ⟨m, em, hmm, hml⟩ := cut_ints54 zs 3 11
  rw [show (3 : Int) = ((3 : Nat) : Int) from rfl, show (11 : Int) = ((11 : Nat) : Int) from rfl, em] at o6
  have gc6 := o6.atL 0 rfl
  walk_at "go"
  refine w_loop0 (fun k ρ h' => ∃ (o6' : Option D) (ys : List D), ρ = [some (.ref 0), some (gmD fs ns st sp mk), some (.ref jR), some (.tup (nD (rng sp.length (cls sp mk (parts54 st sp) K)))), some (.int (mk.length : Int)), some (.ref jp), o6', none, none, none] ∧ Own h4 h' [(jc, m.map D.int), (jp, ys)] ∧ ys.length ≤ 100 + k ∧ ∀ y ∈ ys, ∃ p q : Nat, y = .tup [.int (p : Int), .int (q : Int)] ∧ p < sp.length ∧ q < sp.length) ⟨none, ys, rfl, o6, hyl, hys'⟩ (fun k ρ h' ⟨_, _, _, o', _⟩ => decide_eq_true (o'.atL 0 rfl)) ?_ ?_
  · clear o6 gc6 hys' hyl o5 ys
    rintro k d ρ h7 hd ⟨o6', ys, rfl, o7, hyl, hys⟩
    rw [List.getElem?_map, Option.map_eq_some_iff] at hd
    obtain ⟨z, ez, rfl⟩ := hd
    have hk := (List.getElem?_eq_some_iff.mp ez).1
    have hm1 := mod_in z (n := (mk.length : Int)) (by omega)
    have hm2 := mod_in (z / (mk.length : Int)) (n := (mk.length : Int)) (by omega)
    refine ⟨_, rfl, ?_⟩
    dsimp only [List.set]
    walk_at "go"
    refine o_app o7 1 rfl (by omega) fun h8 o8 => ?_
    simp only [List.set_cons_succ, List.set_cons_zero] at o8
    refine ⟨_, _, rfl, o8, by rw [List.length_append]; exact Nat.add_le_add_right hyl 1, fun y hy => ?_⟩
    rcases List.mem_append.mp hy with q | q
    · exact hys y q
    · rw [List.mem_singleton] at q
      subst q
      refine ⟨(z % (mk.length : Int)).toNat, (z / (mk.length : Int) % (mk.length : Int)).toNat, ?_, by omega, by omega⟩
      rw [show (((z % (mk.length : Int)).toNat : Nat) : Int) = z % (mk.length : Int) by omega, show (((z / (mk.length : Int) % (mk.length : Int)).toNat : Nat) : Int) = z / (mk.length : Int) % (mk.length : Int) by omega]
  clear o6 gc6 hys' hyl o5 ys
  rintro ρ h7 ⟨o6', ys, rfl, o7, hyl, hys⟩
  have gp7 := o7.atL 1 rfl
  walk_at "go"
  refine w_loop0 (fun k ρ h' => h7 <+: h' ∧ ∃ (o7' o8 o9 : Option D), ρ = [some (.ref 0), some (gmD fs ns st sp mk), some (.ref jR), some (.tup (nD (rng sp.length (cls sp mk (parts54 st sp) K)))), some (.int (mk.length : Int)), some (.ref jp), o6', o7', o8, o9]) ⟨List.prefix_rfl, none, none, none, rfl⟩ (fun k ρ h' ⟨p, _⟩ => decide_eq_true (pre_getL p gp7)) ?_ ?_
  · rintro k d ρ h8 hd ⟨p8, o7', o8, o9, rfl⟩
    obtain ⟨p, q, rfl, hp, hq⟩ := hys d (List.mem_of_getElem? hd)
    have ap : atI (nD (rng sp.length (cls sp mk (parts54 st sp) K))) (p : Int) = some (.int ((cls sp mk (parts54 st sp) K p : Nat) : Int)) := rng_at hp
    have aq : atI (nD (rng sp.length (cls sp mk (parts54 st sp) K))) (q : Int) = some (.int ((cls sp mk (parts54 st sp) K q : Nat) : Int)) := rng_at hq
    refine ⟨_, rfl, ?_⟩
    dsimp only [List.set]
    walk_at "go"
    refine (k_apart54 (fs := fs) (ns := ns) gr hn1 (by omega) g.stv hmk hp hq).mono ?_
    rintro d h9 ⟨p9, K2, hs2, hd9⟩
    have e1 := stab_eq gr hPm hs hs2 hp
    have e2 := stab_eq gr hPm hs hs2 hq
    rcases hd9 with ⟨e, rfl⟩ | ⟨e, w, rfl, hwl, hw, hne⟩
    · have : cls sp mk (parts54 st sp) K p = cls sp mk (parts54 st sp) K q := by rw [e1, e2, e]
      rw [this] at ap
      walk_at "go"
      exact ⟨p8.trans p9, _, _, _, rfl⟩
    · have : ¬ cls sp mk (parts54 st sp) K p = cls sp mk (parts54 st sp) K q := fun z => e (by rw [← e1, ← e2, z])
      have gR9 := pre_getL ((o7.pre.trans p8).trans p9) gR4
      walk_at "go"
      refine (k_way54 (fs := fs) (ns := ns) (st := st) gr hmk gR9 (fun x hx => ?_) hp hq hne).mono ?_
      · obtain ⟨a, b⟩ := hw x hx
        have := parts_mem.mp b
        exact ⟨a, (hR _).mpr this.2, this.1⟩
      rintro d h10 ⟨p10, rfl⟩
      walk_at "go"
      exact ⟨(p8.trans p9).trans p10, _, _, _, rfl⟩
  · rintro ρ h8 ⟨p8, o7', o8, o9, rfl⟩
    walk_at "go"
end Mi

namespace Sk54
open PySem L2 Mi
def top (i : Nat) : Stmt := PySem.Challenge.pw_graftform_k54_whole_alike_and_apart.main.body.getD i (.Pass ⟨0, 0, 0, 0⟩)
/-- what the top leaves: names of built-ins that are not bound, constants -/
structure Txt (K : PySem.W.Frag) (mg : Str → Option Value) : Prop where
  b_all : mg "all" = none
  b_bool : mg "bool" = none
  b_int : mg "int" = none
  b_isinstance : mg "isinstance" = none
  b_len : mg "len" = none
  b_list : mg "list" = none
  b_max : mg "max" = none
  b_min : mg "min" = none
  b_range : mg "range" = none
  b_sorted : mg "sorted" = none
  b_tuple : mg "tuple" = none
section
variable {P : Program} {w : World} {K : PySem.W.Frag} {mg : Str → Option Value} {base : Heap}
theorem sc__law_any_names : FnScope ["_law_cell", "_law_many", "_law_letters", "_law_found", "_law_k", "_law_size", "_law_word", "_law_j"] ["_law_cell", "_law_many"] (defScope (top 14)) := ⟨rfl, rfl, rfl, by decide +kernel, rfl, by decide +kernel, by decide +kernel⟩
theorem sim__law_any_names (T : Txt K mg) (d : Df K mg "_law_any_names" (top 14) ["_law_cell", "_law_many"]) : Cal P w K mg base "_law_any_names" 1 (m_any_names_23d34) := by
  exact cal_mk (k := 0) d sc__law_any_names fun f cdv A outer s H E hr => by
   have tk : Takes (cxOf (L2.CX P w) P w K mg base ["_law_cell", "_law_many", "_law_letters", "_law_found", "_law_k", "_law_size", "_law_word", "_law_j"] "_law_any_names" (defScope (top 14)) f cdv A outer s H E) (fun c d _ H' => E c d H') := takes_of rfl rfl rfl rfl
   have hu : (A.deeper (PyProof.Rows.envOfC "_law_any_names" (defScope (top 14)) s.heap.objs.size f cdv)).units + 65 < cLine := by have := hr.un; omega
   have S := sc__law_any_names
   exact ss_cons (sx_set (i := 2) (se_str) S.nd)
      (ss_cons (sx_set (i := 3) (se_lst (sa_nil)) S.nd)
      (ss_cons (sx_for (passes_of rfl) (si_range1 T.b_range (mv 1)) (sg_name (i := 4) S.nd)
      (ss_cons (sx_set (i := 5) (se_bin op_addA s2_add (se_int) (se_bin op_mod s2_mod (mv 0) (se_int))) S.nd)
      (ss_cons (sx_set (i := 0) (se_bin op_fdivW s2_fdiv (mv 0) (se_int)) S.nd)
      (ss_cons (sx_set (i := 6) (se_str) S.nd)
      (ss_cons (sx_while 1000 (passes_of rfl) (st_cmp op_lt s2_lt (se_callB call_len sn_len (by rfl) T.b_len (by decide +kernel) (sa_cons (mv 6) (sa_nil))) (mv 5) (nomark _))
      (ss_cons (sx_set (i := 6) (se_bin op_addA s2_add (mv 6) (se_ix ix_seq s2_ix (mv 2) (se_bin op_mod s2_mod (mv 0) (se_int)) (fun _ _ => rfl))) S.nd)
      (ss_one (sx_set (i := 0) (se_bin op_fdivW s2_fdiv (mv 0) (se_int)) S.nd))))
      (ss_cons (sx_set (i := 7) (se_int) S.nd)
      (ss_cons (sx_while 1000 (passes_of rfl) (st_cmp (op_inA hu) s2_in (mv 6) (mv 3) rfl)
      (ss_cons (sx_set (i := 6) (se_bin op_mulA s2_mul (se_ix ix_seq s2_ix (mv 2) (se_bin op_mod s2_mod (mv 7) (se_int)) (fun _ _ => rfl)) (se_bin op_addA s2_add (se_int) (se_bin op_fdivW s2_fdiv (mv 7) (se_int)))) S.nd)
      (ss_one (sx_set (i := 7) (se_bin op_addA s2_add (mv 7) (se_int)) S.nd))))
      (ss_one (sx_expr (se_bm PySem.F.plainAttrs_list PySem.F.slot_list_append PySem.F.type_list_append mt_append sty_list sm_append (mv 3) (sa_cons (mv 6) (sa_nil))))))))))))
      (ss_one (sx_ret (mv 3)))))
theorem sc__law_names : FnScope ["_law_cell", "_law_many", "_law_letters", "_law_number", "_law_base", "_law_at", "_law_size", "_law_found", "_law_k", "_law_sign"] ["_law_cell", "_law_many"] (defScope (top 15)) := ⟨rfl, rfl, rfl, by decide +kernel, rfl, by decide +kernel, by decide +kernel⟩
theorem sim__law_names (T : Txt K mg) (d : Df K mg "_law_names" (top 15) ["_law_cell", "_law_many"]) (c__law_any_names : Cal P w K mg base "_law_any_names" 1 (m_any_names_23d34)) : Cal P w K mg base "_law_names" 2 (m_names_53c1e) := by
  exact cal_mk (k := 1) d sc__law_names fun f cdv A outer s H E hr => by
   have tk : Takes (cxOf (L2.CX P w) P w K mg base ["_law_cell", "_law_many", "_law_letters", "_law_number", "_law_base", "_law_at", "_law_size", "_law_found", "_law_k", "_law_sign"] "_law_names" (defScope (top 15)) f cdv A outer s H E) (fun c d _ H' => E c d H') := takes_of rfl rfl rfl rfl
   have hu : (A.deeper (PyProof.Rows.envOfC "_law_names" (defScope (top 15)) s.heap.objs.size f cdv)).units + 65 < cLine := by have := hr.un; omega
   have S := sc__law_names
   exact ss_cons (sx_set (i := 2) (se_str) S.nd)
      (ss_cons (sx_if (st_cmp op_ge s2_ge (mv 0) (se_bin op_pow s2_pow (se_int) (se_int)) (nomark _))
      (ss_one (sx_ret (se_callC c__law_any_names (hr.mono (by omega)) tk (sa_cons (mv 0) (sa_cons (mv 1) (sa_nil))))))
      (ss_nil))
      (ss_cons (sx_set (i := 3) (se_bin op_mod s2_mod (mv 0) (se_int)) S.nd)
      (ss_cons (sx_set (i := 4) (se_bm PySem.F.plainAttrs_str PySem.F.slot_str_join PySem.F.type_str_join mt_join sty_str sm_join (se_str) (sa_cons (se_lc (own := [("_law_k", 8)]) S.nd (si_range1 T.b_range (se_int)) (blkOk_by (N := ["_law_cell", "_law_many", "_law_letters", "_law_number", "_law_base", "_law_at", "_law_size", "_law_found", "_law_k", "_law_sign"]) (sc := defScope (top 15)) (by decide +kernel)) (tg_name 8) (fun _ _ _ _ _ => pg_name (i := 8) S.nd rfl (by first | exact Or.inl rfl | exact Or.inr rfl)) (fun _ _ _ _ _ => st_nil) (fun _ _ _ _ _ => se_ix ix_seq s2_ix (mv 2) (se_bin op_mod s2_mod (se_bin op_mod s2_mod (se_bin op_mulA s2_mul (mv 3) (se_bin op_addA s2_add (se_bin op_mulA s2_mul (mv 8) (mv 8)) (se_int))) (se_int)) (se_int)) (fun _ _ => rfl))) (sa_nil))) S.nd)
      (ss_cons (sx_if (st_cmp (op_eqA hu) s2_eq (se_bin op_mod s2_mod (mv 3) (se_int)) (se_int) (nomark _))
      (ss_one (sx_ret (se_lc (own := [("_law_k", 8)]) S.nd (si_range1 T.b_range (mv 1)) (blkOk_by (N := ["_law_cell", "_law_many", "_law_letters", "_law_number", "_law_base", "_law_at", "_law_size", "_law_found", "_law_k", "_law_sign"]) (sc := defScope (top 15)) (by decide +kernel)) (tg_name 8) (fun _ _ _ _ _ => pg_name (i := 8) S.nd rfl (by first | exact Or.inl rfl | exact Or.inr rfl)) (fun _ _ _ _ _ => st_nil) (fun _ _ _ _ _ => se_slice (mv 4) (sp_none) (sp_some (se_bin op_addA s2_add (mv 8) (se_int)))))))
      (ss_nil))
      (ss_cons (sx_set (i := 5) (se_bin op_mod s2_mod (se_bin op_fdivW s2_fdiv (mv 3) (se_int)) (se_int)) S.nd)
      (ss_cons (sx_set (i := 6) (se_bin op_addA s2_add (se_bin op_addA s2_add (mv 5) (se_int)) (se_bin op_mod s2_mod (se_bin op_fdivW s2_fdiv (mv 3) (se_int)) (se_bin op_sub s2_sub (se_int) (mv 5)))) S.nd)
      (ss_cons (sx_set (i := 7) (se_lst (sa_nil)) S.nd)
      (ss_cons (sx_for (passes_of rfl) (si_range1 T.b_range (mv 1)) (sg_name (i := 8) S.nd)
      (ss_cons (sx_set (i := 9) (se_ix ix_seq s2_ix (mv 2) (se_bin op_mod s2_mod (se_bin op_addA s2_add (se_bin op_fdivW s2_fdiv (mv 3) (se_int)) (mv 8)) (se_int)) (fun _ _ => rfl)) S.nd)
      (ss_one (sx_expr (se_bm PySem.F.plainAttrs_list PySem.F.slot_list_append PySem.F.type_list_append mt_append sty_list sm_append (mv 7) (sa_cons (se_slice (se_bin op_addA s2_add (se_bin op_addA s2_add (se_slice (mv 4) (sp_none) (sp_some (mv 5))) (mv 9)) (se_slice (mv 4) (sp_some (se_bin op_addA s2_add (mv 5) (se_int))) (sp_none))) (sp_none) (sp_some (mv 6))) (sa_nil)))))))
      (ss_one (sx_ret (mv 7)))))))))))
theorem sc__law_cell_at : FnScope ["_law_script", "_law_k"] ["_law_script", "_law_k"] (defScope (top 12)) := ⟨rfl, rfl, rfl, by decide +kernel, rfl, by decide +kernel, by decide +kernel⟩
theorem sim__law_cell_at (T : Txt K mg) (d : Df K mg "_law_cell_at" (top 12) ["_law_script", "_law_k"]) : Cal P w K mg base "_law_cell_at" 1 (m_cell_at_2c4cb) := by
  exact cal_mk (k := 0) d sc__law_cell_at fun f cdv A outer s H E hr => by
   have tk : Takes (cxOf (L2.CX P w) P w K mg base ["_law_script", "_law_k"] "_law_cell_at" (defScope (top 12)) f cdv A outer s H E) (fun c d _ H' => E c d H') := takes_of rfl rfl rfl rfl
   have hu : (A.deeper (PyProof.Rows.envOfC "_law_cell_at" (defScope (top 12)) s.heap.objs.size f cdv)).units + 65 < cLine := by have := hr.un; omega
   have S := sc__law_cell_at
   exact ss_cons (sx_if (st_cmp op_lt s2_lt (mv 1) (se_callB call_len sn_len (by rfl) T.b_len (by decide +kernel) (sa_cons (mv 0) (sa_nil))) (nomark _))
      (ss_one (sx_ret (se_ix ix_seq s2_ix (mv 0) (mv 1) (fun _ _ => rfl))))
      (ss_nil))
      (ss_one (sx_ret (se_int)))
theorem sc__law_numbers : FnScope ["_law_script", "_law_start", "_law_many", "_law_cells", "_law_found", "_law_number", "_law_k", "_law_at", "_law_cell"] ["_law_script", "_law_start", "_law_many"] (defScope (top 13)) := ⟨rfl, rfl, rfl, by decide +kernel, rfl, by decide +kernel, by decide +kernel⟩
theorem sim__law_numbers (T : Txt K mg) (d : Df K mg "_law_numbers" (top 13) ["_law_script", "_law_start", "_law_many"]) (c__law_cell_at : Cal P w K mg base "_law_cell_at" 1 (m_cell_at_2c4cb)) : Cal P w K mg base "_law_numbers" 2 (m_numbers_0d805) := by
  exact cal_mk (k := 1) d sc__law_numbers fun f cdv A outer s H E hr => by
   have tk : Takes (cxOf (L2.CX P w) P w K mg base ["_law_script", "_law_start", "_law_many", "_law_cells", "_law_found", "_law_number", "_law_k", "_law_at", "_law_cell"] "_law_numbers" (defScope (top 13)) f cdv A outer s H E) (fun c d _ H' => E c d H') := takes_of rfl rfl rfl rfl
   have hu : (A.deeper (PyProof.Rows.envOfC "_law_numbers" (defScope (top 13)) s.heap.objs.size f cdv)).units + 65 < cLine := by have := hr.un; omega
   have S := sc__law_numbers
   exact ss_cons ((by first | exact sx_setLc (own := [("_law_k", 6)]) (i := 3) S.nd (si_range1 T.b_range (se_callB (call_max2 rfl) sn_max (by rfl) T.b_max (by decide +kernel) (sa_cons (se_int) (sa_cons (se_callB (call_min2 rfl) sn_min (by rfl) T.b_min (by decide +kernel) (sa_cons (se_int) (sa_cons (se_bin op_sub s2_sub (se_callB call_len sn_len (by rfl) T.b_len (by decide +kernel) (sa_cons (mv 0) (sa_nil))) (mv 1)) (sa_nil)))) (sa_nil))))) (blkOk_by (N := ["_law_script", "_law_start", "_law_many", "_law_cells", "_law_found", "_law_number", "_law_k", "_law_at", "_law_cell"]) (sc := defScope (top 13)) (by decide +kernel)) (tg_name 6) (fun _ _ _ _ _ => pg_name (i := 6) S.nd rfl (by first | exact Or.inl rfl | exact Or.inr rfl)) (fun _ _ _ _ _ => st_nil) (fun _ _ _ _ _ => se_callC c__law_cell_at (hr.mono (by omega)) takes0 (sa_cons (mv 0) (sa_cons (se_bin op_addA s2_add (mv 1) (mv 6)) (sa_nil)))) | exact sx_set (i := 3) (se_lc (own := [("_law_k", 6)]) S.nd (si_range1 T.b_range (se_callB (call_max2 rfl) sn_max (by rfl) T.b_max (by decide +kernel) (sa_cons (se_int) (sa_cons (se_callB (call_min2 rfl) sn_min (by rfl) T.b_min (by decide +kernel) (sa_cons (se_int) (sa_cons (se_bin op_sub s2_sub (se_callB call_len sn_len (by rfl) T.b_len (by decide +kernel) (sa_cons (mv 0) (sa_nil))) (mv 1)) (sa_nil)))) (sa_nil))))) (blkOk_by (N := ["_law_script", "_law_start", "_law_many", "_law_cells", "_law_found", "_law_number", "_law_k", "_law_at", "_law_cell"]) (sc := defScope (top 13)) (by decide +kernel)) (tg_name 6) (fun _ _ _ _ _ => pg_name (i := 6) S.nd rfl (by first | exact Or.inl rfl | exact Or.inr rfl)) (fun _ _ _ _ _ => st_nil) (fun _ _ _ _ _ => se_callC c__law_cell_at (hr.mono (by omega)) takes0 (sa_cons (mv 0) (sa_cons (se_bin op_addA s2_add (mv 1) (mv 6)) (sa_nil))))) S.nd))
      (ss_cons (sx_set (i := 4) (se_lst (sa_nil)) S.nd)
      (ss_cons (sx_set (i := 5) (se_int) S.nd)
      (ss_cons (sx_for (passes_of rfl) (si_range1 T.b_range (mv 2)) (sg_name (i := 6) S.nd)
      (ss_cons (sx_set (i := 7) (se_bin op_mod s2_mod (mv 6) (se_callB call_len sn_len (by rfl) T.b_len (by decide +kernel) (sa_cons (mv 3) (sa_nil)))) S.nd)
      (ss_cons (sx_set (i := 8) (se_bin op_mod s2_mod (se_callC c__law_cell_at (hr.mono (by omega)) tk (sa_cons (mv 0) (sa_cons (se_bin op_addA s2_add (mv 1) (mv 6)) (sa_nil)))) (se_int)) S.nd)
      (ss_cons (sx_set (i := 5) (se_bin op_mod s2_mod (se_bin op_addA s2_add (se_bin op_addA s2_add (se_bin op_addA s2_add (se_bin op_mulA s2_mul (mv 5) (se_int)) (se_bin op_mulA s2_mul (mv 8) (se_int))) (se_bin op_mulA s2_mul (mv 6) (mv 6))) (se_int)) (se_int)) S.nd)
      (ss_cons (sx_expr (se_bm PySem.F.plainAttrs_list PySem.F.slot_list_append PySem.F.type_list_append mt_append sty_list sm_append (mv 4) (sa_cons (se_bin op_fdivW s2_fdiv (mv 5) (se_int)) (sa_nil))))
      (ss_one (sx_if (st_cmp op_ge s2_ge (se_ix ix_seq s2_ix (mv 3) (mv 7) (fun _ _ => rfl)) (se_bin op_pow s2_pow (se_int) (se_int)) (nomark _))
      (ss_cons (sx_setIx (mv 4) (mv 6) (se_bin op_mod s2_mod (se_ix ix_seq s2_ix (mv 3) (mv 7) (fun _ _ => rfl)) (se_int)))
      (ss_one (sx_setIx (mv 3) (mv 7) (se_bin op_fdivW s2_fdiv (se_ix ix_seq s2_ix (mv 3) (mv 7) (fun _ _ => rfl)) (se_int)))))
      (ss_nil))))))))
      (ss_one (sx_ret (mv 4))))))
theorem sc__law_machine : FnScope ["_law_xs", "_law_many", "_law_forms", "_law_names_here", "_law_top", "_law_starts", "_law_marks", "_law_steps", "_law_p", "_law_k", "_law_q"] ["_law_xs", "_law_many", "_law_forms", "_law_names_here"] (defScope (top 16)) := ⟨rfl, rfl, rfl, by decide +kernel, rfl, by decide +kernel, by decide +kernel⟩
theorem sim__law_machine (T : Txt K mg) (d : Df K mg "_law_machine" (top 16) ["_law_xs", "_law_many", "_law_forms", "_law_names_here"]) : Cal P w K mg base "_law_machine" 1 (m_machine_76c53) := by
  exact cal_mk (k := 0) d sc__law_machine fun f cdv A outer s H E hr => by
   have tk : Takes (cxOf (L2.CX P w) P w K mg base ["_law_xs", "_law_many", "_law_forms", "_law_names_here", "_law_top", "_law_starts", "_law_marks", "_law_steps", "_law_p", "_law_k", "_law_q"] "_law_machine" (defScope (top 16)) f cdv A outer s H E) (fun c d _ H' => E c d H') := takes_of rfl rfl rfl rfl
   have hu : (A.deeper (PyProof.Rows.envOfC "_law_machine" (defScope (top 16)) s.heap.objs.size f cdv)).units + 65 < cLine := by have := hr.un; omega
   have S := sc__law_machine
   exact ss_cons (sx_set (i := 4) (se_bin op_addA s2_add (se_callB call_len sn_len (by rfl) T.b_len (by decide +kernel) (sa_cons (mv 3) (sa_nil))) (se_int)) S.nd)
      (ss_cons (sx_set (i := 5) (se_callTy call_tupF sn_tuple (by rfl) T.b_tuple (by decide +kernel) (sa_cons (se_lc (own := [("_law_k", 9)]) S.nd (si_range1 T.b_range (mv 4)) (blkOk_by (N := ["_law_xs", "_law_many", "_law_forms", "_law_names_here", "_law_top", "_law_starts", "_law_marks", "_law_steps", "_law_p", "_law_k", "_law_q"]) (sc := defScope (top 16)) (by decide +kernel)) (tg_name 9) (fun _ _ _ _ _ => pg_name (i := 9) S.nd rfl (by first | exact Or.inl rfl | exact Or.inr rfl)) (fun _ _ _ _ _ => st_nil) (fun _ _ _ _ _ => se_bin op_mod s2_mod (se_ix ix_seq s2_ix (mv 0) (mv 9) (fun _ _ => rfl)) (mv 1))) (sa_nil))) S.nd)
      (ss_cons (sx_set (i := 6) (se_callTy call_tupF sn_tuple (by rfl) T.b_tuple (by decide +kernel) (sa_cons (se_lc (own := [("_law_k", 9)]) S.nd (si_range1 T.b_range (mv 1)) (blkOk_by (N := ["_law_xs", "_law_many", "_law_forms", "_law_names_here", "_law_top", "_law_starts", "_law_marks", "_law_steps", "_law_p", "_law_k", "_law_q"]) (sc := defScope (top 16)) (by decide +kernel)) (tg_name 9) (fun _ _ _ _ _ => pg_name (i := 9) S.nd rfl (by first | exact Or.inl rfl | exact Or.inr rfl)) (fun _ _ _ _ _ => st_nil) (fun _ _ _ _ _ => se_bin op_mod s2_mod (se_ix ix_seq s2_ix (mv 0) (se_bin op_addA s2_add (mv 4) (mv 9)) (fun _ _ => rfl)) (se_bin op_shl s2_shl (se_int) (se_callB call_len sn_len (by rfl) T.b_len (by decide +kernel) (sa_cons (mv 2) (sa_nil)))))) (sa_nil))) S.nd)
      (ss_cons (sx_set (i := 7) (se_lst (sa_nil)) S.nd)
      (ss_cons (sx_for (passes_of rfl) (si_range1 T.b_range (mv 1)) (sg_name (i := 8) S.nd)
      (ss_one (sx_expr (se_bm PySem.F.plainAttrs_list PySem.F.slot_list_append PySem.F.type_list_append mt_append sty_list sm_append (mv 7) (sa_cons (se_callTy call_tupF sn_tuple (by rfl) T.b_tuple (by decide +kernel) (sa_cons (se_lc (own := [("_law_q", 10)]) S.nd (si_range1 T.b_range (mv 1)) (blkOk_by (N := ["_law_xs", "_law_many", "_law_forms", "_law_names_here", "_law_top", "_law_starts", "_law_marks", "_law_steps", "_law_p", "_law_k", "_law_q"]) (sc := defScope (top 16)) (by decide +kernel)) (tg_name 10) (fun _ _ _ _ _ => pg_name (i := 10) S.nd rfl (by first | exact Or.inl rfl | exact Or.inr rfl)) (fun _ _ _ _ _ => st_nil) (fun _ _ _ _ _ => se_bin op_mod s2_mod (se_ix ix_seq s2_ix (mv 0) (se_bin op_addA s2_add (se_bin op_addA s2_add (se_bin op_addA s2_add (mv 4) (mv 1)) (se_bin op_mulA s2_mul (mv 1) (mv 8))) (mv 10)) (fun _ _ => rfl)) (mv 1))) (sa_nil))) (sa_nil))))))
      (ss_one (sx_ret (se_tup (sa_cons (se_callTy call_tupF sn_tuple (by rfl) T.b_tuple (by decide +kernel) (sa_cons (mv 2) (sa_nil))) (sa_cons (se_callTy call_tupF sn_tuple (by rfl) T.b_tuple (by decide +kernel) (sa_cons (mv 3) (sa_nil))) (sa_cons (mv 5) (sa_cons (se_callTy call_tupF sn_tuple (by rfl) T.b_tuple (by decide +kernel) (sa_cons (mv 7) (sa_nil))) (sa_cons (mv 6) (sa_nil)))))))))))))
theorem sc__law_like_on_a_side : FnScope ["_law_machine_here", "_law_p", "_law_q", "_law_side", "_law_steps", "_law_r", "_law_marks", "_law_row"] ["_law_machine_here", "_law_p", "_law_q", "_law_side"] (defScope (top 18)) := ⟨rfl, rfl, rfl, by decide +kernel, rfl, by decide +kernel, by decide +kernel⟩
theorem sim__law_like_on_a_side (T : Txt K mg) (d : Df K mg "_law_like_on_a_side" (top 18) ["_law_machine_here", "_law_p", "_law_q", "_law_side"]) : Cal P w K mg base "_law_like_on_a_side" 1 (m_like_on_a_side_2a257) := by
  exact cal_mk (k := 0) d sc__law_like_on_a_side fun f cdv A outer s H E hr => by
   have tk : Takes (cxOf (L2.CX P w) P w K mg base ["_law_machine_here", "_law_p", "_law_q", "_law_side", "_law_steps", "_law_r", "_law_marks", "_law_row"] "_law_like_on_a_side" (defScope (top 18)) f cdv A outer s H E) (fun c d _ H' => E c d H') := takes_of rfl rfl rfl rfl
   have hu : (A.deeper (PyProof.Rows.envOfC "_law_like_on_a_side" (defScope (top 18)) s.heap.objs.size f cdv)).units + 65 < cLine := by have := hr.un; omega
   have S := sc__law_like_on_a_side
   exact ss_cons ((by first | exact sx_setLc (own := [("_law_row", 7)]) (i := 4) S.nd (si_iter (se_ix ix_seq s2_ix (mv 0) (se_int) (fun _ _ => rfl))) (blkOk_by (N := ["_law_machine_here", "_law_p", "_law_q", "_law_side", "_law_steps", "_law_r", "_law_marks", "_law_row"]) (sc := defScope (top 18)) (by decide +kernel)) (tg_name 7) (fun _ _ _ _ _ => pg_name (i := 7) S.nd rfl (by first | exact Or.inl rfl | exact Or.inr rfl)) (fun _ _ _ _ _ => st_nil) (fun _ _ _ _ _ => se_callTy call_list_of sn_list (by rfl) T.b_list (by decide +kernel) (sa_cons (mv 7) (sa_nil))) | exact sx_set (i := 4) (se_lc (own := [("_law_row", 7)]) S.nd (si_iter (se_ix ix_seq s2_ix (mv 0) (se_int) (fun _ _ => rfl))) (blkOk_by (N := ["_law_machine_here", "_law_p", "_law_q", "_law_side", "_law_steps", "_law_r", "_law_marks", "_law_row"]) (sc := defScope (top 18)) (by decide +kernel)) (tg_name 7) (fun _ _ _ _ _ => pg_name (i := 7) S.nd rfl (by first | exact Or.inl rfl | exact Or.inr rfl)) (fun _ _ _ _ _ => st_nil) (fun _ _ _ _ _ => se_callTy call_list_of sn_list (by rfl) T.b_list (by decide +kernel) (sa_cons (mv 7) (sa_nil)))) S.nd))
      (ss_cons (sx_for (passes_of rfl) (si_range1 T.b_range (se_callB call_len sn_len (by rfl) T.b_len (by decide +kernel) (sa_cons (mv 4) (sa_nil)))) (sg_name (i := 5) S.nd)
      (ss_one (sx_if (st_cmp (op_eqA hu) s2_eq (mv 3) (se_int) (nomark _))
      (ss_one (sx_setIx (se_ix ix_seq s2_ix (mv 4) (mv 2) (fun _ _ => rfl)) (mv 5) (se_ix ix_seq s2_ix (se_ix ix_seq s2_ix (mv 4) (mv 1) (fun _ _ => rfl)) (mv 5) (fun _ _ => rfl))))
      (ss_one (sx_setIx (se_ix ix_seq s2_ix (mv 4) (mv 5) (fun _ _ => rfl)) (mv 2) (se_ix ix_seq s2_ix (se_ix ix_seq s2_ix (mv 4) (mv 5) (fun _ _ => rfl)) (mv 1) (fun _ _ => rfl)))))))
      (ss_cons (sx_set (i := 6) (se_callTy call_list_of sn_list (by rfl) T.b_list (by decide +kernel) (sa_cons (se_ix ix_seq s2_ix (mv 0) (se_int) (fun _ _ => rfl)) (sa_nil))) S.nd)
      (ss_cons (sx_setIx (mv 6) (mv 2) (se_ix ix_seq s2_ix (mv 6) (mv 1) (fun _ _ => rfl)))
      (ss_one (sx_ret (se_bin op_addA s2_add (se_slice (mv 0) (sp_none) (sp_some (se_int))) (se_tup (sa_cons (se_callTy call_tupF sn_tuple (by rfl) T.b_tuple (by decide +kernel) (sa_cons (se_lc (own := [("_law_row", 7)]) S.nd (si_iter (mv 4)) (blkOk_by (N := ["_law_machine_here", "_law_p", "_law_q", "_law_side", "_law_steps", "_law_r", "_law_marks", "_law_row"]) (sc := defScope (top 18)) (by decide +kernel)) (tg_name 7) (fun _ _ _ _ _ => pg_name (i := 7) S.nd rfl (by first | exact Or.inl rfl | exact Or.inr rfl)) (fun _ _ _ _ _ => st_nil) (fun _ _ _ _ _ => se_callTy call_tupF sn_tuple (by rfl) T.b_tuple (by decide +kernel) (sa_cons (mv 7) (sa_nil)))) (sa_nil))) (sa_cons (se_callTy call_tupF sn_tuple (by rfl) T.b_tuple (by decide +kernel) (sa_cons (mv 6) (sa_nil))) (sa_nil))))))))))
theorem sc__law_counter : FnScope ["_law_xs", "_law_forms", "_law_names_here", "_law_many", "_law_way_here", "_law_steps", "_law_p", "_law_low", "_law_starts", "_law_further", "_law_k", "_law_q"] ["_law_xs", "_law_forms", "_law_names_here"] (defScope (top 19)) := ⟨rfl, rfl, rfl, by decide +kernel, rfl, by decide +kernel, by decide +kernel⟩
theorem sim__law_counter (T : Txt K mg) (d : Df K mg "_law_counter" (top 19) ["_law_xs", "_law_forms", "_law_names_here"]) : Cal P w K mg base "_law_counter" 1 (m_counter_24df0) := by
  exact cal_mk (k := 0) d sc__law_counter fun f cdv A outer s H E hr => by
   have tk : Takes (cxOf (L2.CX P w) P w K mg base ["_law_xs", "_law_forms", "_law_names_here", "_law_many", "_law_way_here", "_law_steps", "_law_p", "_law_low", "_law_starts", "_law_further", "_law_k", "_law_q"] "_law_counter" (defScope (top 19)) f cdv A outer s H E) (fun c d _ H' => E c d H') := takes_of rfl rfl rfl rfl
   have hu : (A.deeper (PyProof.Rows.envOfC "_law_counter" (defScope (top 19)) s.heap.objs.size f cdv)).units + 65 < cLine := by have := hr.un; omega
   have S := sc__law_counter
   exact ss_cons (sx_set (i := 3) (se_bin op_addA s2_add (se_int) (se_bin op_mod s2_mod (se_ix ix_seq s2_ix (mv 0) (se_int) (fun _ _ => rfl)) (se_int))) S.nd)
      (ss_cons (sx_set (i := 4) (se_bin op_mod s2_mod (se_ix ix_seq s2_ix (mv 0) (se_int) (fun _ _ => rfl)) (se_int)) S.nd)
      (ss_cons (sx_set (i := 5) (se_lst (sa_nil)) S.nd)
      (ss_cons (sx_for (passes_of rfl) (si_range1 T.b_range (mv 3)) (sg_name (i := 6) S.nd)
      (ss_cons (sx_set (i := 9) (se_ix ix_seq s2_ix (se_lst (sa_cons (se_callB (call_min2 rfl) sn_min (by rfl) T.b_min (by decide +kernel) (sa_cons (se_bin op_addA s2_add (mv 6) (se_int)) (sa_cons (se_bin op_sub s2_sub (mv 3) (se_int)) (sa_nil)))) (sa_cons (se_bin op_mod s2_mod (se_bin op_addA s2_add (mv 6) (se_int)) (mv 3)) (sa_nil)))) (se_bin op_mod s2_mod (mv 4) (se_int)) (fun _ _ => rfl)) S.nd)
      (ss_one (sx_expr (se_bm PySem.F.plainAttrs_list PySem.F.slot_list_append PySem.F.type_list_append mt_append sty_list sm_append (mv 5) (sa_cons (se_callTy call_tupF sn_tuple (by rfl) T.b_tuple (by decide +kernel) (sa_cons (se_lc (own := [("_law_q", 11)]) S.nd (si_range1 T.b_range (mv 3)) (blkOk_by (N := ["_law_xs", "_law_forms", "_law_names_here", "_law_many", "_law_way_here", "_law_steps", "_law_p", "_law_low", "_law_starts", "_law_further", "_law_k", "_law_q"]) (sc := defScope (top 19)) (by decide +kernel)) (tg_name 11) (fun _ _ _ _ _ => pg_name (i := 11) S.nd rfl (by first | exact Or.inl rfl | exact Or.inr rfl)) (fun _ _ _ _ _ => st_nil) (fun _ _ _ _ _ => se_ix ix_seq s2_ix (se_lst (sa_cons (mv 9) (sa_cons (mv 6) (sa_nil)))) (se_callTy call_int1 sn_int (by rfl) T.b_int (by decide +kernel) (sa_cons (se_and (se_cmp op_gt s2_gt (mv 4) (se_int) (nomark _)) (se_one (se_cmp op_gt s2_gt (mv 11) (mv 6) (nomark _)))) (sa_nil))) (fun _ _ => rfl))) (sa_nil))) (sa_nil)))))))
      (ss_cons (sx_set (i := 7) (se_ix ix_seq s2_ix (se_lst (sa_cons (se_bin op_sub s2_sub (mv 3) (se_int)) (sa_cons (se_bin op_fdivW s2_fdiv (mv 3) (se_int)) (sa_cons (se_bin op_sub s2_sub (mv 3) (se_int)) (sa_cons (se_bin op_sub s2_sub (mv 3) (se_int)) (sa_nil)))))) (se_bin op_mod s2_mod (se_ix ix_seq s2_ix (mv 0) (se_int) (fun _ _ => rfl)) (se_int)) (fun _ _ => rfl)) S.nd)
      (ss_cons (sx_set (i := 8) (se_bin op_addA s2_add (se_callTy call_tupF sn_tuple (by rfl) T.b_tuple (by decide +kernel) (sa_cons (se_lc (own := [("_law_k", 10)]) S.nd (si_range1 T.b_range (se_callB call_len sn_len (by rfl) T.b_len (by decide +kernel) (sa_cons (mv 2) (sa_nil)))) (blkOk_by (N := ["_law_xs", "_law_forms", "_law_names_here", "_law_many", "_law_way_here", "_law_steps", "_law_p", "_law_low", "_law_starts", "_law_further", "_law_k", "_law_q"]) (sc := defScope (top 19)) (by decide +kernel)) (tg_name 10) (fun _ _ _ _ _ => pg_name (i := 10) S.nd rfl (by first | exact Or.inl rfl | exact Or.inr rfl)) (fun _ _ _ _ _ => st_nil) (fun _ _ _ _ _ => se_bin op_mod s2_mod (se_ix ix_seq s2_ix (mv 0) (mv 10) (fun _ _ => rfl)) (mv 3))) (sa_nil))) (se_tup (sa_cons (se_int) (sa_nil)))) S.nd)
      (ss_one (sx_ret (se_tup (sa_cons (se_callTy call_tupF sn_tuple (by rfl) T.b_tuple (by decide +kernel) (sa_cons (mv 1) (sa_nil))) (sa_cons (se_callTy call_tupF sn_tuple (by rfl) T.b_tuple (by decide +kernel) (sa_cons (mv 2) (sa_nil))) (sa_cons (mv 8) (sa_cons (se_callTy call_tupF sn_tuple (by rfl) T.b_tuple (by decide +kernel) (sa_cons (mv 5) (sa_nil))) (sa_cons (se_callTy call_tupF sn_tuple (by rfl) T.b_tuple (by decide +kernel) (sa_cons (se_lc (own := [("_law_k", 10)]) S.nd (si_range1 T.b_range (mv 3)) (blkOk_by (N := ["_law_xs", "_law_forms", "_law_names_here", "_law_many", "_law_way_here", "_law_steps", "_law_p", "_law_low", "_law_starts", "_law_further", "_law_k", "_law_q"]) (sc := defScope (top 19)) (by decide +kernel)) (tg_name 10) (fun _ _ _ _ _ => pg_name (i := 10) S.nd rfl (by first | exact Or.inl rfl | exact Or.inr rfl)) (fun _ _ _ _ _ => st_nil) (fun _ _ _ _ _ => se_callTy call_int1 sn_int (by rfl) T.b_int (by decide +kernel) (sa_cons (se_cmp op_ge s2_ge (mv 10) (mv 7) (nomark _)) (sa_nil)))) (sa_nil))) (sa_nil))))))))))))))
theorem sc__law_twins : FnScope ["_law_xs", "_law_machine_here", "_law_many", "_law_turned_about", "_law_few", "_law_bases", "_law_heads", "_law_base", "_law_starts", "_law_k", "_law_steps", "_law_p", "_law_marks", "_law_some", "_law_row", "_law_q"] ["_law_xs", "_law_machine_here", "_law_many", "_law_turned_about"] (defScope (top 17)) := ⟨rfl, rfl, rfl, by decide +kernel, rfl, by decide +kernel, by decide +kernel⟩
theorem sim__law_twins (T : Txt K mg) (d : Df K mg "_law_twins" (top 17) ["_law_xs", "_law_machine_here", "_law_many", "_law_turned_about"]) : Cal P w K mg base "_law_twins" 1 (m_twins_efdf6) := by
  exact cal_mk (k := 0) d sc__law_twins fun f cdv A outer s H E hr => by
   have tk : Takes (cxOf (L2.CX P w) P w K mg base ["_law_xs", "_law_machine_here", "_law_many", "_law_turned_about", "_law_few", "_law_bases", "_law_heads", "_law_base", "_law_starts", "_law_k", "_law_steps", "_law_p", "_law_marks", "_law_some", "_law_row", "_law_q"] "_law_twins" (defScope (top 17)) f cdv A outer s H E) (fun c d _ H' => E c d H') := takes_of rfl rfl rfl rfl
   have hu : (A.deeper (PyProof.Rows.envOfC "_law_twins" (defScope (top 17)) s.heap.objs.size f cdv)).units + 65 < cLine := by have := hr.un; omega
   have S := sc__law_twins
   exact ss_cons (sx_set (i := 4) (se_callB call_len sn_len (by rfl) T.b_len (by decide +kernel) (sa_cons (se_ix ix_seq s2_ix (mv 1) (se_int) (fun _ _ => rfl)) (sa_nil))) S.nd)
      (ss_cons ((by first | exact sx_setLc (own := [("_law_k", 9)]) (i := 5) S.nd (si_range1 T.b_range (mv 2)) (blkOk_by (N := ["_law_xs", "_law_machine_here", "_law_many", "_law_turned_about", "_law_few", "_law_bases", "_law_heads", "_law_base", "_law_starts", "_law_k", "_law_steps", "_law_p", "_law_marks", "_law_some", "_law_row", "_law_q"]) (sc := defScope (top 17)) (by decide +kernel)) (tg_name 9) (fun _ _ _ _ _ => pg_name (i := 9) S.nd rfl (by first | exact Or.inl rfl | exact Or.inr rfl)) (fun _ _ _ _ _ => st_nil) (fun _ _ _ _ _ => se_ifE (st_cmp op_lt s2_lt (mv 9) (mv 4) (nomark _)) (mv 9) (se_bin op_mod s2_mod (se_ix ix_seq s2_ix (mv 0) (mv 9) (fun _ _ => rfl)) (mv 4))) | exact sx_set (i := 5) (se_lc (own := [("_law_k", 9)]) S.nd (si_range1 T.b_range (mv 2)) (blkOk_by (N := ["_law_xs", "_law_machine_here", "_law_many", "_law_turned_about", "_law_few", "_law_bases", "_law_heads", "_law_base", "_law_starts", "_law_k", "_law_steps", "_law_p", "_law_marks", "_law_some", "_law_row", "_law_q"]) (sc := defScope (top 17)) (by decide +kernel)) (tg_name 9) (fun _ _ _ _ _ => pg_name (i := 9) S.nd rfl (by first | exact Or.inl rfl | exact Or.inr rfl)) (fun _ _ _ _ _ => st_nil) (fun _ _ _ _ _ => se_ifE (st_cmp op_lt s2_lt (mv 9) (mv 4) (nomark _)) (mv 9) (se_bin op_mod s2_mod (se_ix ix_seq s2_ix (mv 0) (mv 9) (fun _ _ => rfl)) (mv 4)))) S.nd))
      (ss_cons (sx_if (st_val (mv 3))
      (ss_one (sx_set (i := 5) (se_revL (mv 5)) S.nd))
      (ss_nil))
      (ss_cons (sx_set (i := 6) (se_lst (sa_nil)) S.nd)
      (ss_cons (sx_for (passes_of rfl) (si_range1 T.b_range (mv 4)) (sg_name (i := 7) S.nd)
      (ss_one (sx_expr (se_bm PySem.F.plainAttrs_list PySem.F.slot_list_append PySem.F.type_list_append mt_append sty_list sm_append (mv 6) (sa_cons (se_lc (own := [("_law_k", 9)]) S.nd (si_range1 T.b_range (mv 2)) (blkOk_by (N := ["_law_xs", "_law_machine_here", "_law_many", "_law_turned_about", "_law_few", "_law_bases", "_law_heads", "_law_base", "_law_starts", "_law_k", "_law_steps", "_law_p", "_law_marks", "_law_some", "_law_row", "_law_q"]) (sc := defScope (top 17)) (by decide +kernel)) (tg_name 9) (fun _ _ _ _ _ => pg_name (i := 9) S.nd rfl (by first | exact Or.inl rfl | exact Or.inr rfl)) (fun _ _ _ _ _ => st_one (st_cmp (op_eqA hu) s2_eq (se_ix ix_seq s2_ix (mv 5) (mv 9) (fun _ _ => rfl)) (mv 7) (nomark _))) (fun _ _ _ _ _ => mv 9)) (sa_nil))))))
      (ss_cons (sx_set (i := 8) (se_lst (sa_nil)) S.nd)
      (ss_cons (sx_for (passes_of rfl) (si_range1 T.b_range (se_callB call_len sn_len (by rfl) T.b_len (by decide +kernel) (sa_cons (se_ix ix_seq s2_ix (mv 1) (se_int) (fun _ _ => rfl)) (sa_nil)))) (sg_name (i := 9) S.nd)
      (ss_cons (sx_set (i := 13) (se_ix ix_seq s2_ix (mv 6) (se_ix ix_seq s2_ix (se_ix ix_seq s2_ix (mv 1) (se_int) (fun _ _ => rfl)) (mv 9) (fun _ _ => rfl)) (fun _ _ => rfl)) S.nd)
      (ss_one (sx_expr (se_bm PySem.F.plainAttrs_list PySem.F.slot_list_append PySem.F.type_list_append mt_append sty_list sm_append (mv 8) (sa_cons (se_ix ix_seq s2_ix (mv 13) (se_bin op_mod s2_mod (se_ix ix_seq s2_ix (mv 0) (se_bin op_addA s2_add (mv 2) (mv 9)) (fun _ _ => rfl)) (se_callB call_len sn_len (by rfl) T.b_len (by decide +kernel) (sa_cons (mv 13) (sa_nil)))) (fun _ _ => rfl)) (sa_nil)))))))
      (ss_cons (sx_set (i := 10) (se_lst (sa_nil)) S.nd)
      (ss_cons (sx_for (passes_of rfl) (si_range1 T.b_range (mv 2)) (sg_name (i := 11) S.nd)
      (ss_cons (sx_set (i := 14) (se_lst (sa_nil)) S.nd)
      (ss_cons (sx_for (passes_of rfl) (si_range1 T.b_range (mv 2)) (sg_name (i := 15) S.nd)
      (ss_cons (sx_set (i := 13) (se_ix ix_seq s2_ix (mv 6) (se_ix ix_seq s2_ix (se_ix ix_seq s2_ix (se_ix ix_seq s2_ix (mv 1) (se_int) (fun _ _ => rfl)) (se_ix ix_seq s2_ix (mv 5) (mv 11) (fun _ _ => rfl)) (fun _ _ => rfl)) (se_ix ix_seq s2_ix (mv 5) (mv 15) (fun _ _ => rfl)) (fun _ _ => rfl)) (fun _ _ => rfl)) S.nd)
      (ss_one (sx_expr (se_bm PySem.F.plainAttrs_list PySem.F.slot_list_append PySem.F.type_list_append mt_append sty_list sm_append (mv 14) (sa_cons (se_ix ix_seq s2_ix (mv 13) (se_bin op_mod s2_mod (se_bin op_fdivW s2_fdiv (se_ix ix_seq s2_ix (mv 0) (se_bin op_mod s2_mod (se_bin op_addA s2_add (se_bin op_mulA s2_mul (mv 2) (mv 11)) (se_bin op_mulA s2_mul (se_int) (mv 15))) (se_callB call_len sn_len (by rfl) T.b_len (by decide +kernel) (sa_cons (mv 0) (sa_nil)))) (fun _ _ => rfl)) (se_int)) (se_callB call_len sn_len (by rfl) T.b_len (by decide +kernel) (sa_cons (mv 13) (sa_nil)))) (fun _ _ => rfl)) (sa_nil)))))))
      (ss_one (sx_expr (se_bm PySem.F.plainAttrs_list PySem.F.slot_list_append PySem.F.type_list_append mt_append sty_list sm_append (mv 10) (sa_cons (se_callTy call_tupF sn_tuple (by rfl) T.b_tuple (by decide +kernel) (sa_cons (mv 14) (sa_nil))) (sa_nil))))))))
      (ss_cons (sx_set (i := 12) (se_callTy call_tupF sn_tuple (by rfl) T.b_tuple (by decide +kernel) (sa_cons (se_lc (own := [("_law_base", 7)]) S.nd (si_iter (mv 5)) (blkOk_by (N := ["_law_xs", "_law_machine_here", "_law_many", "_law_turned_about", "_law_few", "_law_bases", "_law_heads", "_law_base", "_law_starts", "_law_k", "_law_steps", "_law_p", "_law_marks", "_law_some", "_law_row", "_law_q"]) (sc := defScope (top 17)) (by decide +kernel)) (tg_name 7) (fun _ _ _ _ _ => pg_name (i := 7) S.nd rfl (by first | exact Or.inl rfl | exact Or.inr rfl)) (fun _ _ _ _ _ => st_nil) (fun _ _ _ _ _ => se_ix ix_seq s2_ix (se_ix ix_seq s2_ix (mv 1) (se_int) (fun _ _ => rfl)) (mv 7) (fun _ _ => rfl))) (sa_nil))) S.nd)
      (ss_one (sx_ret (se_tup (sa_cons (se_ix ix_seq s2_ix (mv 1) (se_int) (fun _ _ => rfl)) (sa_cons (se_ix ix_seq s2_ix (mv 1) (se_int) (fun _ _ => rfl)) (sa_cons (se_callTy call_tupF sn_tuple (by rfl) T.b_tuple (by decide +kernel) (sa_cons (mv 8) (sa_nil))) (sa_cons (se_callTy call_tupF sn_tuple (by rfl) T.b_tuple (by decide +kernel) (sa_cons (mv 10) (sa_nil))) (sa_cons (mv 12) (sa_nil))))))))))))))))))
theorem sc__law_one : FnScope ["_law_script", "_law_words", "_law_kinds", "_law_many", "_law_forms", "_law_xs", "_law_found"] ["_law_script"] (defScope (top 20)) := ⟨rfl, rfl, rfl, by decide +kernel, rfl, by decide +kernel, by decide +kernel⟩
theorem sim__law_one (T : Txt K mg) (d : Df K mg "_law_one" (top 20) ["_law_script"]) (c__law_names : Cal P w K mg base "_law_names" 2 (m_names_53c1e)) (c__law_cell_at : Cal P w K mg base "_law_cell_at" 1 (m_cell_at_2c4cb)) (c__law_numbers : Cal P w K mg base "_law_numbers" 2 (m_numbers_0d805)) (c__law_machine : Cal P w K mg base "_law_machine" 1 (m_machine_76c53)) (c__law_like_on_a_side : Cal P w K mg base "_law_like_on_a_side" 1 (m_like_on_a_side_2a257)) (c__law_counter : Cal P w K mg base "_law_counter" 1 (m_counter_24df0)) (c__law_twins : Cal P w K mg base "_law_twins" 1 (m_twins_efdf6)) : Cal P w K mg base "_law_one" 3 (m_one_9da12) := by
  exact cal_mk (k := 2) d sc__law_one fun f cdv A outer s H E hr => by
   have tk : Takes (cxOf (L2.CX P w) P w K mg base ["_law_script", "_law_words", "_law_kinds", "_law_many", "_law_forms", "_law_xs", "_law_found"] "_law_one" (defScope (top 20)) f cdv A outer s H E) (fun c d _ H' => E c d H') := takes_of rfl rfl rfl rfl
   have hu : (A.deeper (PyProof.Rows.envOfC "_law_one" (defScope (top 20)) s.heap.objs.size f cdv)).units + 65 < cLine := by have := hr.un; omega
   have S := sc__law_one
   exact ss_cons (sx_set (i := 1) (se_callC c__law_names (hr.mono (by omega)) tk (sa_cons (se_callC c__law_cell_at (hr.mono (by omega)) tk (sa_cons (mv 0) (sa_cons (se_int) (sa_nil)))) (sa_cons (se_int) (sa_nil)))) S.nd)
      (ss_cons (sx_set (i := 2) (se_bin op_mod s2_mod (se_callC c__law_cell_at (hr.mono (by omega)) tk (sa_cons (mv 0) (sa_cons (se_int) (sa_nil)))) (se_bin op_pow s2_pow (se_int) (se_int))) S.nd)
      (ss_cons (sx_set (i := 3) (se_bin op_addA s2_add (se_int) (se_bin op_mod s2_mod (mv 2) (se_int))) S.nd)
      (ss_cons (sx_if (st_cmp (op_eqA hu) s2_eq (se_bin op_mod s2_mod (se_bin op_fdivW s2_fdiv (mv 2) (se_int)) (se_int)) (se_int) (nomark _))
      (ss_one (sx_set (i := 3) (se_bin op_addA s2_add (se_int) (se_bin op_mod s2_mod (se_bin op_fdivW s2_fdiv (mv 2) (se_int)) (se_int))) S.nd))
      (ss_nil))
      (ss_cons (sx_set (i := 4) (se_slice (mv 1) (sp_some (se_int)) (sp_some (se_bin op_addA s2_add (se_int) (se_bin op_mod s2_mod (se_bin op_fdivW s2_fdiv (mv 2) (se_int)) (se_int))))) S.nd)
      (ss_cons (sx_set (i := 5) (se_callC c__law_numbers (hr.mono (by omega)) tk (sa_cons (mv 0) (sa_cons (se_int) (sa_cons (se_bin op_addA s2_add (se_bin op_addA s2_add (se_bin op_mulA s2_mul (mv 3) (mv 3)) (mv 3)) (se_int)) (sa_nil))))) S.nd)
      (ss_cons (sx_set (i := 6) (se_callC c__law_machine (hr.mono (by omega)) tk (sa_cons (mv 5) (sa_cons (mv 3) (sa_cons (mv 4) (sa_cons (se_callB op_sorted sn_sorted (by rfl) T.b_sorted (by decide +kernel) (sa_cons (se_slice (mv 1) (sp_none) (sp_some (se_bin op_mod s2_mod (se_bin op_fdivW s2_fdiv (mv 2) (se_int)) (se_int)))) (sa_nil))) (sa_nil)))))) S.nd)
      (ss_cons (sx_if (st_cmp (op_eqA hu) s2_eq (se_bin op_mod s2_mod (se_bin op_fdivW s2_fdiv (mv 2) (se_int)) (se_int)) (se_int) (nomark _))
      (ss_one (sx_set (i := 6) (se_callC c__law_like_on_a_side (hr.mono (by omega)) tk (sa_cons (mv 6) (sa_cons (se_bin op_mod s2_mod (se_ix ix_seq s2_ix (mv 5) (se_int) (fun _ _ => rfl)) (mv 3)) (sa_cons (se_bin op_mod s2_mod (se_ix ix_seq s2_ix (mv 5) (se_int) (fun _ _ => rfl)) (mv 3)) (sa_cons (se_bin op_mod s2_mod (se_ix ix_seq s2_ix (mv 5) (se_int) (fun _ _ => rfl)) (se_int)) (sa_nil)))))) S.nd))
      (ss_nil))
      (ss_cons (sx_if (st_cmp (op_eqA hu) s2_eq (se_bin op_mod s2_mod (se_bin op_fdivW s2_fdiv (mv 2) (se_int)) (se_int)) (se_int) (nomark _))
      (ss_one (sx_set (i := 6) (se_callC c__law_counter (hr.mono (by omega)) tk (sa_cons (mv 5) (sa_cons (se_slice (mv 1) (sp_some (se_int)) (sp_some (se_int))) (sa_cons (se_callB op_sorted sn_sorted (by rfl) T.b_sorted (by decide +kernel) (sa_cons (se_slice (mv 1) (sp_none) (sp_some (se_bin op_mod s2_mod (se_bin op_fdivW s2_fdiv (mv 2) (se_int)) (se_int)))) (sa_nil))) (sa_nil))))) S.nd))
      (ss_nil))
      (ss_cons (sx_if (st_cmp (op_eqA hu) s2_eq (se_bin op_mod s2_mod (se_callC c__law_cell_at (hr.mono (by omega)) tk (sa_cons (mv 0) (sa_cons (se_int) (sa_nil)))) (se_int)) (se_int) (nomark _))
      (ss_one (sx_set (i := 6) (se_callC c__law_twins (hr.mono (by omega)) tk (sa_cons (mv 5) (sa_cons (mv 6) (sa_cons (se_bin op_addA s2_add (se_callB call_len sn_len (by rfl) T.b_len (by decide +kernel) (sa_cons (se_ix ix_seq s2_ix (mv 6) (se_int) (fun _ _ => rfl)) (sa_nil))) (se_int)) (sa_cons (se_cmp (op_eqA hu) s2_eq (se_bin op_mod s2_mod (se_bin op_fdivW s2_fdiv (se_callC c__law_cell_at (hr.mono (by omega)) tk (sa_cons (mv 0) (sa_cons (se_int) (sa_nil)))) (se_int)) (se_int)) (se_int) (nomark _)) (sa_nil)))))) S.nd))
      (ss_nil))
      (ss_one (sx_ret (mv 6))))))))))))
theorem sc__law_reached : FnScope ["_law_machine_here", "_law_known", "_law_state", "_law_k", "_law_p", "_law_q"] ["_law_machine_here"] (defScope (top 21)) := ⟨rfl, rfl, rfl, by decide +kernel, rfl, by decide +kernel, by decide +kernel⟩
theorem sim__law_reached (T : Txt K mg) (d : Df K mg "_law_reached" (top 21) ["_law_machine_here"]) : Cal P w K mg base "_law_reached" 1 (m_reached_2ae6f) := by
  exact cal_mk (k := 0) d sc__law_reached fun f cdv A outer s H E hr => by
   have tk : Takes (cxOf (L2.CX P w) P w K mg base ["_law_machine_here", "_law_known", "_law_state", "_law_k", "_law_p", "_law_q"] "_law_reached" (defScope (top 21)) f cdv A outer s H E) (fun c d _ H' => E c d H') := takes_of rfl rfl rfl rfl
   have hu : (A.deeper (PyProof.Rows.envOfC "_law_reached" (defScope (top 21)) s.heap.objs.size f cdv)).units + 65 < cLine := by have := hr.un; omega
   have S := sc__law_reached
   exact ss_cons (sx_set (i := 1) (se_dict0) S.nd)
      (ss_cons (sx_for (passes_of rfl) (si_iter (se_ix ix_seq s2_ix (mv 0) (se_int) (fun _ _ => rfl))) (sg_name (i := 2) S.nd)
      (ss_one (sx_aset hu (mv 1) (mv 2) (se_bl))))
      (ss_cons (sx_for (passes_of rfl) (si_range1 T.b_range (se_callB call_len sn_len (by rfl) T.b_len (by decide +kernel) (sa_cons (se_ix ix_seq s2_ix (mv 0) (se_int) (fun _ _ => rfl)) (sa_nil)))) (sg_name (i := 3) S.nd)
      (ss_one (sx_for (passes_of rfl) (si_iter (se_callTy (cr_listK rfl) sn_listK (by rfl) T.b_list (by decide +kernel) (sa_cons (mv 1) (sa_nil)))) (sg_name (i := 4) S.nd)
      (ss_one (sx_for (passes_of rfl) (si_iter (se_callTy (cr_listK rfl) sn_listK (by rfl) T.b_list (by decide +kernel) (sa_cons (mv 1) (sa_nil)))) (sg_name (i := 5) S.nd)
      (ss_one (sx_aset hu (mv 1) (se_ix ix_seq s2_ix (se_ix ix_seq s2_ix (se_ix ix_seq s2_ix (mv 0) (se_int) (fun _ _ => rfl)) (mv 4) (fun _ _ => rfl)) (mv 5) (fun _ _ => rfl)) (se_bl))))))))
      (ss_one (sx_ret (se_callB (cr_sortKI hu rfl) sn_sortKI (by rfl) T.b_sorted (by decide +kernel) (sa_cons (mv 1) (sa_nil)))))))
theorem sc_lowered : FnScope ["machine", "found", "less", "p", "q", "size", "state"] ["machine", "found"] (defScope (top 1)) := ⟨rfl, rfl, rfl, by decide +kernel, rfl, by decide +kernel, by decide +kernel⟩
theorem sim_lowered (T : Txt K mg) (d : Df K mg "lowered" (top 1) ["machine", "found"]) : Cal P w K mg base "lowered" 1 (m_lowered_0b90e) := by
  exact cal_mk (k := 0) d sc_lowered fun f cdv A outer s H E hr => by
   have tk : Takes (cxOf (L2.CX P w) P w K mg base ["machine", "found", "less", "p", "q", "size", "state"] "lowered" (defScope (top 1)) f cdv A outer s H E) (fun c d _ H' => E c d H') := takes_of rfl rfl rfl rfl
   have hu : (A.deeper (PyProof.Rows.envOfC "lowered" (defScope (top 1)) s.heap.objs.size f cdv)).units + 65 < cLine := by have := hr.un; omega
   have S := sc_lowered
   exact ss_cons (sx_set (i := 2) (se_bl) S.nd)
      (ss_cons (sx_for (passes_of rfl) (si_range1 T.b_range (se_callB call_len sn_len (by rfl) T.b_len (by decide +kernel) (sa_cons (mv 1) (sa_nil)))) (sg_name (i := 3) S.nd)
      (ss_one (sx_for (passes_of rfl) (si_range1 T.b_range (se_callB call_len sn_len (by rfl) T.b_len (by decide +kernel) (sa_cons (mv 1) (sa_nil)))) (sg_name (i := 4) S.nd)
      (ss_one (sx_if ((sw_and (st_cmp op_notN s2_notN (se_ix ix_seq s2_ix (mv 1) (mv 3) (fun _ _ => rfl)) (se_non) (nomark _)) (sw_and1 (st_cmp op_notN s2_notN (se_ix ix_seq s2_ix (mv 1) (mv 4) (fun _ _ => rfl)) (se_non) (nomark _)))).pt)
      (ss_cons (sx_set (i := 5) (se_bin op_addA s2_add (se_ix ix_seq s2_ix (mv 1) (mv 3) (fun _ _ => rfl)) (se_ix ix_seq s2_ix (mv 1) (mv 4) (fun _ _ => rfl))) S.nd)
      (ss_cons (sx_set (i := 6) (se_ix ix_seq s2_ix (se_ix ix_seq s2_ix (se_ix ix_seq s2_ix (mv 0) (se_int) (fun _ _ => rfl)) (mv 3) (fun _ _ => rfl)) (mv 4) (fun _ _ => rfl)) S.nd)
      (ss_one (sx_if ((sw_or (st_cmp op_isN s2_isN (se_ix ix_seq s2_ix (mv 1) (mv 6) (fun _ _ => rfl)) (se_non) (nomark _)) (sw_or1 (st_cmp op_lt s2_lt (mv 5) (se_ix ix_seq s2_ix (mv 1) (mv 6) (fun _ _ => rfl)) (nomark _)))).pt)
      (ss_cons (sx_setIx (mv 1) (mv 6) (mv 5))
      (ss_one (sx_set (i := 2) (se_bl) S.nd)))
      (ss_nil)))))
      (ss_nil))))))
      (ss_one (sx_ret (mv 2))))
theorem sc_sizes : FnScope ["machine", "found", "state", "mark"] ["machine"] (defScope (top 2)) := ⟨rfl, rfl, rfl, by decide +kernel, rfl, by decide +kernel, by decide +kernel⟩
theorem sim_sizes (T : Txt K mg) (d : Df K mg "sizes" (top 2) ["machine"]) (c_lowered : Cal P w K mg base "lowered" 1 (m_lowered_0b90e)) : Cal P w K mg base "sizes" 2 (m_sizes_9dfee) := by
  exact cal_mk (k := 1) d sc_sizes fun f cdv A outer s H E hr => by
   have tk : Takes (cxOf (L2.CX P w) P w K mg base ["machine", "found", "state", "mark"] "sizes" (defScope (top 2)) f cdv A outer s H E) (fun c d _ H' => E c d H') := takes_of rfl rfl rfl rfl
   have hu : (A.deeper (PyProof.Rows.envOfC "sizes" (defScope (top 2)) s.heap.objs.size f cdv)).units + 65 < cLine := by have := hr.un; omega
   have S := sc_sizes
   exact ss_cons ((by first | exact sx_setLc (own := [("mark", 3)]) (i := 1) S.nd (si_iter (se_ix ix_seq s2_ix (mv 0) (se_int) (fun _ _ => rfl))) (blkOk_by (N := ["machine", "found", "state", "mark"]) (sc := defScope (top 2)) (by decide +kernel)) (tg_name 3) (fun _ _ _ _ _ => pg_name (i := 3) S.nd rfl (by first | exact Or.inl rfl | exact Or.inr rfl)) (fun _ _ _ _ _ => st_nil) (fun _ _ _ _ _ => se_non) | exact sx_set (i := 1) (se_lc (own := [("mark", 3)]) S.nd (si_iter (se_ix ix_seq s2_ix (mv 0) (se_int) (fun _ _ => rfl))) (blkOk_by (N := ["machine", "found", "state", "mark"]) (sc := defScope (top 2)) (by decide +kernel)) (tg_name 3) (fun _ _ _ _ _ => pg_name (i := 3) S.nd rfl (by first | exact Or.inl rfl | exact Or.inr rfl)) (fun _ _ _ _ _ => st_nil) (fun _ _ _ _ _ => se_non)) S.nd))
      (ss_cons (sx_for (passes_of rfl) (si_iter (se_ix ix_seq s2_ix (mv 0) (se_int) (fun _ _ => rfl))) (sg_name (i := 2) S.nd)
      (ss_one (sx_setIx (mv 1) (mv 2) (se_int))))
      (ss_cons (sx_while 1000000000000000000000000 (passes_of rfl) (st_val (se_callC c_lowered (hr.mono (by omega)) tk (sa_cons (mv 0) (sa_cons (mv 1) (sa_nil)))))
      (ss_one (sx_pass)))
      (ss_one (sx_ret (se_callTy call_tupF sn_tuple (by rfl) T.b_tuple (by decide +kernel) (sa_cons (mv 1) (sa_nil)))))))
theorem sc_partners : FnScope ["machine", "costs", "state"] ["machine"] (defScope (top 4)) := ⟨rfl, rfl, rfl, by decide +kernel, rfl, by decide +kernel, by decide +kernel⟩
theorem sim_partners (T : Txt K mg) (d : Df K mg "partners" (top 4) ["machine"]) (c_sizes : Cal P w K mg base "sizes" 2 (m_sizes_9dfee)) : Cal P w K mg base "partners" 3 (m_partners_f0b60) := by
  exact cal_mk (k := 2) d sc_partners fun f cdv A outer s H E hr => by
   have tk : Takes (cxOf (L2.CX P w) P w K mg base ["machine", "costs", "state"] "partners" (defScope (top 4)) f cdv A outer s H E) (fun c d _ H' => E c d H') := takes_of rfl rfl rfl rfl
   have hu : (A.deeper (PyProof.Rows.envOfC "partners" (defScope (top 4)) s.heap.objs.size f cdv)).units + 65 < cLine := by have := hr.un; omega
   have S := sc_partners
   exact ss_cons (sx_set (i := 1) (se_callC c_sizes (hr.mono (by omega)) tk (sa_cons (mv 0) (sa_nil))) S.nd)
      (ss_one (sx_ret (se_lc (own := [("state", 2)]) S.nd (si_range1 T.b_range (se_callB call_len sn_len (by rfl) T.b_len (by decide +kernel) (sa_cons (mv 1) (sa_nil)))) (blkOk_by (N := ["machine", "costs", "state"]) (sc := defScope (top 4)) (by decide +kernel)) (tg_name 2) (fun _ _ _ _ _ => pg_name (i := 2) S.nd rfl (by first | exact Or.inl rfl | exact Or.inr rfl)) (fun _ _ _ _ _ => st_one (st_cmp op_notN s2_notN (se_ix ix_seq s2_ix (mv 1) (mv 2) (fun _ _ => rfl)) (se_non) (nomark _))) (fun _ _ _ _ _ => mv 2))))
theorem sc_finer : FnScope ["machine", "classes", "some", "known", "found", "p", "key", "r"] ["machine", "classes", "some"] (defScope (top 5)) := ⟨rfl, rfl, rfl, by decide +kernel, rfl, by decide +kernel, by decide +kernel⟩
theorem sim_finer (T : Txt K mg) (d : Df K mg "finer" (top 5) ["machine", "classes", "some"]) : Cal P w K mg base "finer" 1 (m_finer_10ac3) := by
  exact cal_mk (k := 0) d sc_finer fun f cdv A outer s H E hr => by
   have tk : Takes (cxOf (L2.CX P w) P w K mg base ["machine", "classes", "some", "known", "found", "p", "key", "r"] "finer" (defScope (top 5)) f cdv A outer s H E) (fun c d _ H' => E c d H') := takes_of rfl rfl rfl rfl
   have hu : (A.deeper (PyProof.Rows.envOfC "finer" (defScope (top 5)) s.heap.objs.size f cdv)).units + 65 < cLine := by have := hr.un; omega
   have S := sc_finer
   exact ss_cons (sx_set (i := 3) (se_dict0) S.nd)
      (ss_cons (sx_set (i := 4) (se_lst (sa_nil)) S.nd)
      (ss_cons (sx_for (passes_of rfl) (si_range1 T.b_range (se_callB call_len sn_len (by rfl) T.b_len (by decide +kernel) (sa_cons (mv 1) (sa_nil)))) (sg_name (i := 5) S.nd)
      (ss_cons (sx_set (i := 6) (se_lst (sa_cons (se_ix ix_seq s2_ix (mv 1) (mv 5) (fun _ _ => rfl)) (sa_nil))) S.nd)
      (ss_cons (sx_for (passes_of rfl) (si_iter (mv 2)) (sg_name (i := 7) S.nd)
      (ss_cons (sx_expr (se_bm PySem.F.plainAttrs_list PySem.F.slot_list_append PySem.F.type_list_append mt_append sty_list sm_append (mv 6) (sa_cons (se_ix ix_seq s2_ix (mv 1) (se_ix ix_seq s2_ix (se_ix ix_seq s2_ix (se_ix ix_seq s2_ix (mv 0) (se_int) (fun _ _ => rfl)) (mv 5) (fun _ _ => rfl)) (mv 7) (fun _ _ => rfl)) (fun _ _ => rfl)) (sa_nil))))
      (ss_one (sx_expr (se_bm PySem.F.plainAttrs_list PySem.F.slot_list_append PySem.F.type_list_append mt_append sty_list sm_append (mv 6) (sa_cons (se_ix ix_seq s2_ix (mv 1) (se_ix ix_seq s2_ix (se_ix ix_seq s2_ix (se_ix ix_seq s2_ix (mv 0) (se_int) (fun _ _ => rfl)) (mv 7) (fun _ _ => rfl)) (mv 5) (fun _ _ => rfl)) (fun _ _ => rfl)) (sa_nil)))))))
      (ss_one (sx_expr (se_bm PySem.F.plainAttrs_list PySem.F.slot_list_append PySem.F.type_list_append mt_append sty_list sm_append (mv 4) (sa_cons (se_setA hu (mv 3) (se_callTy call_tupF sn_tuple (by rfl) T.b_tuple (by decide +kernel) (sa_cons (mv 6) (sa_nil))) (mv 5)) (sa_nil))))))))
      (ss_one (sx_ret (mv 4)))))
theorem sc_rounds : FnScope ["machine", "some", "known", "found", "classes", "p"] ["machine"] (defScope (top 6)) := ⟨rfl, rfl, rfl, by decide +kernel, rfl, by decide +kernel, by decide +kernel⟩
theorem sim_rounds (T : Txt K mg) (d : Df K mg "rounds" (top 6) ["machine"]) (c_partners : Cal P w K mg base "partners" 3 (m_partners_f0b60)) (c_finer : Cal P w K mg base "finer" 1 (m_finer_10ac3)) : Cal P w K mg base "rounds" 4 (m_rounds_f8746) := by
  exact cal_mk (k := 3) d sc_rounds fun f cdv A outer s H E hr => by
   have tk : Takes (cxOf (L2.CX P w) P w K mg base ["machine", "some", "known", "found", "classes", "p"] "rounds" (defScope (top 6)) f cdv A outer s H E) (fun c d _ H' => E c d H') := takes_of rfl rfl rfl rfl
   have hu : (A.deeper (PyProof.Rows.envOfC "rounds" (defScope (top 6)) s.heap.objs.size f cdv)).units + 65 < cLine := by have := hr.un; omega
   have S := sc_rounds
   exact ss_cons (sx_set (i := 1) (se_callC c_partners (hr.mono (by omega)) tk (sa_cons (mv 0) (sa_nil))) S.nd)
      (ss_cons (sx_set (i := 2) (se_dict0) S.nd)
      (ss_cons (sx_set (i := 3) (se_lst (sa_cons (se_lc (own := [("p", 5)]) S.nd (si_range1 T.b_range (se_callB call_len sn_len (by rfl) T.b_len (by decide +kernel) (sa_cons (se_ix ix_seq s2_ix (mv 0) (se_int) (fun _ _ => rfl)) (sa_nil)))) (blkOk_by (N := ["machine", "some", "known", "found", "classes", "p"]) (sc := defScope (top 6)) (by decide +kernel)) (tg_name 5) (fun _ _ _ _ _ => pg_name (i := 5) S.nd rfl (by first | exact Or.inl rfl | exact Or.inr rfl)) (fun _ _ _ _ _ => st_nil) (fun _ _ _ _ _ => se_setA hu (mv 2) (se_ix ix_seq s2_ix (se_ix ix_seq s2_ix (mv 0) (se_int) (fun _ _ => rfl)) (mv 5) (fun _ _ => rfl)) (mv 5))) (sa_nil))) S.nd)
      (ss_one (sx_while 1000 (passes_of rfl) (st_val (se_bl))
      (ss_cons (sx_set (i := 4) (se_callC c_finer (hr.mono (by omega)) tk (sa_cons (mv 0) (sa_cons (se_ix ix_seq s2_ix (mv 3) (se_un un_neg s1_neg (se_int)) (fun _ _ => rfl)) (sa_cons (mv 1) (sa_nil))))) S.nd)
      (ss_cons (sx_if (st_cmp (op_eqA hu) s2_eq (mv 4) (se_ix ix_seq s2_ix (mv 3) (se_un un_neg s1_neg (se_int)) (fun _ _ => rfl)) (nomark _))
      (ss_one (sx_ret (mv 3)))
      (ss_nil))
      (ss_one (sx_expr (se_bm PySem.F.plainAttrs_list PySem.F.slot_list_append PySem.F.type_list_append mt_append sty_list sm_append (mv 3) (sa_cons (mv 4) (sa_nil)))))))))))
theorem sc_alike : FnScope ["machine"] ["machine"] (defScope (top 7)) := ⟨rfl, rfl, rfl, by decide +kernel, rfl, by decide +kernel, by decide +kernel⟩
theorem sim_alike (T : Txt K mg) (d : Df K mg "alike" (top 7) ["machine"]) (c_rounds : Cal P w K mg base "rounds" 4 (m_rounds_f8746)) : Cal P w K mg base "alike" 5 (m_alike_62182) := by
  exact cal_mk (k := 4) d sc_alike fun f cdv A outer s H E hr => by
   have tk : Takes (cxOf (L2.CX P w) P w K mg base ["machine"] "alike" (defScope (top 7)) f cdv A outer s H E) (fun c d _ H' => E c d H') := takes_of rfl rfl rfl rfl
   have hu : (A.deeper (PyProof.Rows.envOfC "alike" (defScope (top 7)) s.heap.objs.size f cdv)).units + 65 < cLine := by have := hr.un; omega
   have S := sc_alike
   exact ss_one (sx_ret (se_callTy call_tupF sn_tuple (by rfl) T.b_tuple (by decide +kernel) (sa_cons (se_ix ix_seq s2_ix (se_callC c_rounds (hr.mono (by omega)) tk (sa_cons (mv 0) (sa_nil))) (se_un un_neg s1_neg (se_int)) (fun _ _ => rfl)) (sa_nil))))
theorem sc__law_whole : FnScope ["_law_found"] ["_law_found"] (defScope (top 22)) := ⟨rfl, rfl, rfl, by decide +kernel, rfl, by decide +kernel, by decide +kernel⟩
theorem sim__law_whole (T : Txt K mg) (d : Df K mg "_law_whole" (top 22) ["_law_found"]) : Cal P w K mg base "_law_whole" 1 (m_whole_05e23) := by
  exact cal_mk (k := 0) d sc__law_whole fun f cdv A outer s H E hr => by
   have tk : Takes (cxOf (L2.CX P w) P w K mg base ["_law_found"] "_law_whole" (defScope (top 22)) f cdv A outer s H E) (fun c d _ H' => E c d H') := takes_of rfl rfl rfl rfl
   have hu : (A.deeper (PyProof.Rows.envOfC "_law_whole" (defScope (top 22)) s.heap.objs.size f cdv)).units + 65 < cLine := by have := hr.un; omega
   have S := sc__law_whole
   exact ss_one (sx_ret (se_and (se_isi (mv 0) T.b_isinstance T.b_int (by decide +kernel)) (se_one (se_not (se_isi (mv 0) T.b_isinstance T.b_bool (by decide +kernel))))))
theorem sc__law_classes : FnScope ["_law_found", "_law_machine_here", "_law_reached_here", "_law_many", "_law_p", "_law_head", "_law_r"] ["_law_found", "_law_machine_here", "_law_reached_here"] (defScope (top 23)) := ⟨rfl, rfl, rfl, by decide +kernel, rfl, by decide +kernel, by decide +kernel⟩
theorem sim__law_classes (T : Txt K mg) (d : Df K mg "_law_classes" (top 23) ["_law_found", "_law_machine_here", "_law_reached_here"]) (c__law_whole : Cal P w K mg base "_law_whole" 1 (m_whole_05e23)) : Cal P w K mg base "_law_classes" 2 (m_classes_a41b6) := by
  exact cal_mk (k := 1) d sc__law_classes fun f cdv A outer s H E hr => by
   have tk : Takes (cxOf (L2.CX P w) P w K mg base ["_law_found", "_law_machine_here", "_law_reached_here", "_law_many", "_law_p", "_law_head", "_law_r"] "_law_classes" (defScope (top 23)) f cdv A outer s H E) (fun c d _ H' => E c d H') := takes_of rfl rfl rfl rfl
   have hu : (A.deeper (PyProof.Rows.envOfC "_law_classes" (defScope (top 23)) s.heap.objs.size f cdv)).units + 65 < cLine := by have := hr.un; omega
   have S := sc__law_classes
   exact ss_cons (sx_set (i := 3) (se_callB call_len sn_len (by rfl) T.b_len (by decide +kernel) (sa_cons (se_ix ix_seq s2_ix (mv 1) (se_int) (fun _ _ => rfl)) (sa_nil))) S.nd)
      (ss_cons (sx_if ((sw_or (st_not (st_val (se_isi (mv 0) T.b_isinstance T.b_tuple (by decide +kernel)))) (sw_or (st_cmp (op_neA hu) s2_ne (se_callB call_len sn_len (by rfl) T.b_len (by decide +kernel) (sa_cons (mv 0) (sa_nil))) (mv 3) (nomark _)) (sw_or1 (st_not (st_val (se_callB (cr_all rfl) sn_all (by rfl) T.b_all (by decide +kernel) (sa_cons (se_lc (own := [("_law_p", 4)]) S.nd (si_iter (mv 0)) (blkOk_by (N := ["_law_found", "_law_machine_here", "_law_reached_here", "_law_many", "_law_p", "_law_head", "_law_r"]) (sc := defScope (top 23)) (by decide +kernel)) (tg_name 4) (fun _ _ _ _ _ => pg_name (i := 4) S.nd rfl (by first | exact Or.inl rfl | exact Or.inr rfl)) (fun _ _ _ _ _ => st_nil) (fun _ _ _ _ _ => se_callC c__law_whole (hr.mono (by omega)) takes0 (sa_cons (mv 4) (sa_nil)))) (sa_nil)))))))).pt)
      (ss_one (sx_ret (se_bl)))
      (ss_nil))
      (ss_cons (sx_for (passes_of rfl) (si_range1 T.b_range (mv 3)) (sg_name (i := 4) S.nd)
      (ss_cons (sx_set (i := 5) (se_ix ix_seq s2_ix (mv 0) (mv 4) (fun _ _ => rfl)) S.nd)
      (ss_cons (sx_if ((sw_or (st_not (st_chain op_le s2_le op_le s2_le (se_int) (mv 5) (mv 4))) (sw_or (st_cmp (op_neA hu) s2_ne (se_ix ix_seq s2_ix (mv 0) (mv 5) (fun _ _ => rfl)) (mv 5) (nomark _)) (sw_or1 (st_cmp (op_neA hu) s2_ne (se_ix ix_seq s2_ix (se_ix ix_seq s2_ix (mv 1) (se_int) (fun _ _ => rfl)) (mv 5) (fun _ _ => rfl)) (se_ix ix_seq s2_ix (se_ix ix_seq s2_ix (mv 1) (se_int) (fun _ _ => rfl)) (mv 4) (fun _ _ => rfl)) (nomark _))))).pt)
      (ss_one (sx_ret (se_bl)))
      (ss_nil))
      (ss_one (sx_for (passes_of rfl) (si_iter (mv 2)) (sg_name (i := 6) S.nd)
      (ss_cons (sx_if (st_cmp (op_neA hu) s2_ne (se_ix ix_seq s2_ix (mv 0) (se_ix ix_seq s2_ix (se_ix ix_seq s2_ix (se_ix ix_seq s2_ix (mv 1) (se_int) (fun _ _ => rfl)) (mv 4) (fun _ _ => rfl)) (mv 6) (fun _ _ => rfl)) (fun _ _ => rfl)) (se_ix ix_seq s2_ix (mv 0) (se_ix ix_seq s2_ix (se_ix ix_seq s2_ix (se_ix ix_seq s2_ix (mv 1) (se_int) (fun _ _ => rfl)) (mv 5) (fun _ _ => rfl)) (mv 6) (fun _ _ => rfl)) (fun _ _ => rfl)) (nomark _))
      (ss_one (sx_ret (se_bl)))
      (ss_nil))
      (ss_one (sx_if (st_cmp (op_neA hu) s2_ne (se_ix ix_seq s2_ix (mv 0) (se_ix ix_seq s2_ix (se_ix ix_seq s2_ix (se_ix ix_seq s2_ix (mv 1) (se_int) (fun _ _ => rfl)) (mv 6) (fun _ _ => rfl)) (mv 4) (fun _ _ => rfl)) (fun _ _ => rfl)) (se_ix ix_seq s2_ix (mv 0) (se_ix ix_seq s2_ix (se_ix ix_seq s2_ix (se_ix ix_seq s2_ix (mv 1) (se_int) (fun _ _ => rfl)) (mv 6) (fun _ _ => rfl)) (mv 5) (fun _ _ => rfl)) (fun _ _ => rfl)) (nomark _))
      (ss_one (sx_ret (se_bl)))
      (ss_nil)))))))))
      (ss_one (sx_ret (se_bl)))))
theorem sc_first_unlike : FnScope ["history", "one", "other", "k"] ["history", "one", "other"] (defScope (top 9)) := ⟨rfl, rfl, rfl, by decide +kernel, rfl, by decide +kernel, by decide +kernel⟩
theorem sim_first_unlike (T : Txt K mg) (d : Df K mg "first_unlike" (top 9) ["history", "one", "other"]) : Cal P w K mg base "first_unlike" 1 (m_first_unlike_550e4) := by
  exact cal_mk (k := 0) d sc_first_unlike fun f cdv A outer s H E hr => by
   have tk : Takes (cxOf (L2.CX P w) P w K mg base ["history", "one", "other", "k"] "first_unlike" (defScope (top 9)) f cdv A outer s H E) (fun c d _ H' => E c d H') := takes_of rfl rfl rfl rfl
   have hu : (A.deeper (PyProof.Rows.envOfC "first_unlike" (defScope (top 9)) s.heap.objs.size f cdv)).units + 65 < cLine := by have := hr.un; omega
   have S := sc_first_unlike
   exact ss_cons (sx_set (i := 3) (se_int) S.nd)
      (ss_cons (sx_while 1000 (passes_of rfl) (st_cmp (op_eqA hu) s2_eq (se_ix ix_seq s2_ix (se_ix ix_seq s2_ix (mv 0) (mv 3) (fun _ _ => rfl)) (mv 1) (fun _ _ => rfl)) (se_ix ix_seq s2_ix (se_ix ix_seq s2_ix (mv 0) (mv 3) (fun _ _ => rfl)) (mv 2) (fun _ _ => rfl)) (nomark _))
      (ss_one (sx_set (i := 3) (se_bin op_addA s2_add (mv 3) (se_int)) S.nd)))
      (ss_one (sx_ret (mv 3))))
theorem sc_telling_step : FnScope ["machine", "some", "classes", "one", "other", "r", "here", "there"] ["machine", "some", "classes", "one", "other"] (defScope (top 8)) := ⟨rfl, rfl, rfl, by decide +kernel, rfl, by decide +kernel, by decide +kernel⟩
theorem sim_telling_step (T : Txt K mg) (d : Df K mg "telling_step" (top 8) ["machine", "some", "classes", "one", "other"]) : Cal P w K mg base "telling_step" 1 (m_telling_step_31d40) := by
  exact cal_mk (k := 0) d sc_telling_step fun f cdv A outer s H E hr => by
   have tk : Takes (cxOf (L2.CX P w) P w K mg base ["machine", "some", "classes", "one", "other", "r", "here", "there"] "telling_step" (defScope (top 8)) f cdv A outer s H E) (fun c d _ H' => E c d H') := takes_of rfl rfl rfl rfl
   have hu : (A.deeper (PyProof.Rows.envOfC "telling_step" (defScope (top 8)) s.heap.objs.size f cdv)).units + 65 < cLine := by have := hr.un; omega
   have S := sc_telling_step
   exact ss_cons (sx_for (passes_of rfl) (si_iter (mv 1)) (sg_name (i := 5) S.nd)
      (ss_cons (sx_set (i := 6) (se_ix ix_seq s2_ix (se_ix ix_seq s2_ix (se_ix ix_seq s2_ix (mv 0) (se_int) (fun _ _ => rfl)) (mv 3) (fun _ _ => rfl)) (mv 5) (fun _ _ => rfl)) S.nd)
      (ss_cons (sx_set (i := 7) (se_ix ix_seq s2_ix (se_ix ix_seq s2_ix (se_ix ix_seq s2_ix (mv 0) (se_int) (fun _ _ => rfl)) (mv 4) (fun _ _ => rfl)) (mv 5) (fun _ _ => rfl)) S.nd)
      (ss_cons (sx_if (st_cmp (op_neA hu) s2_ne (se_ix ix_seq s2_ix (mv 2) (mv 6) (fun _ _ => rfl)) (se_ix ix_seq s2_ix (mv 2) (mv 7) (fun _ _ => rfl)) (nomark _))
      (ss_one (sx_ret (se_tup (sa_cons (se_tup (sa_cons (se_int) (sa_cons (mv 5) (sa_nil)))) (sa_cons (mv 6) (sa_cons (mv 7) (sa_nil)))))))
      (ss_nil))
      (ss_cons (sx_set (i := 6) (se_ix ix_seq s2_ix (se_ix ix_seq s2_ix (se_ix ix_seq s2_ix (mv 0) (se_int) (fun _ _ => rfl)) (mv 5) (fun _ _ => rfl)) (mv 3) (fun _ _ => rfl)) S.nd)
      (ss_cons (sx_set (i := 7) (se_ix ix_seq s2_ix (se_ix ix_seq s2_ix (se_ix ix_seq s2_ix (mv 0) (se_int) (fun _ _ => rfl)) (mv 5) (fun _ _ => rfl)) (mv 4) (fun _ _ => rfl)) S.nd)
      (ss_one (sx_if (st_cmp (op_neA hu) s2_ne (se_ix ix_seq s2_ix (mv 2) (mv 6) (fun _ _ => rfl)) (se_ix ix_seq s2_ix (mv 2) (mv 7) (fun _ _ => rfl)) (nomark _))
      (ss_one (sx_ret (se_tup (sa_cons (se_tup (sa_cons (se_int) (sa_cons (mv 5) (sa_nil)))) (sa_cons (mv 6) (sa_cons (mv 7) (sa_nil)))))))
      (ss_nil)))))))))
      (ss_one (sx_ret (se_non)))
theorem sc_apart : FnScope ["machine", "one", "other", "history", "way", "some", "k", "step"] ["machine", "one", "other"] (defScope (top 10)) := ⟨rfl, rfl, rfl, by decide +kernel, rfl, by decide +kernel, by decide +kernel⟩
theorem sim_apart (T : Txt K mg) (d : Df K mg "apart" (top 10) ["machine", "one", "other"]) (c_rounds : Cal P w K mg base "rounds" 4 (m_rounds_f8746)) (c_partners : Cal P w K mg base "partners" 3 (m_partners_f0b60)) (c_first_unlike : Cal P w K mg base "first_unlike" 1 (m_first_unlike_550e4)) (c_telling_step : Cal P w K mg base "telling_step" 1 (m_telling_step_31d40)) : Cal P w K mg base "apart" 5 (m_apart_4d1da) := by
  exact cal_mk (k := 4) d sc_apart fun f cdv A outer s H E hr => by
   have tk : Takes (cxOf (L2.CX P w) P w K mg base ["machine", "one", "other", "history", "way", "some", "k", "step"] "apart" (defScope (top 10)) f cdv A outer s H E) (fun c d _ H' => E c d H') := takes_of rfl rfl rfl rfl
   have hu : (A.deeper (PyProof.Rows.envOfC "apart" (defScope (top 10)) s.heap.objs.size f cdv)).units + 65 < cLine := by have := hr.un; omega
   have S := sc_apart
   exact ss_cons (sx_set (i := 3) (se_callC c_rounds (hr.mono (by omega)) tk (sa_cons (mv 0) (sa_nil))) S.nd)
      (ss_cons (sx_if (st_cmp (op_eqA hu) s2_eq (se_ix ix_seq s2_ix (se_ix ix_seq s2_ix (mv 3) (se_un un_neg s1_neg (se_int)) (fun _ _ => rfl)) (mv 1) (fun _ _ => rfl)) (se_ix ix_seq s2_ix (se_ix ix_seq s2_ix (mv 3) (se_un un_neg s1_neg (se_int)) (fun _ _ => rfl)) (mv 2) (fun _ _ => rfl)) (nomark _))
      (ss_one (sx_ret (se_non)))
      (ss_nil))
      (ss_cons (sx_set (i := 4) (se_lst (sa_nil)) S.nd)
      (ss_cons (sx_set (i := 5) (se_callC c_partners (hr.mono (by omega)) tk (sa_cons (mv 0) (sa_nil))) S.nd)
      (ss_cons (sx_set (i := 6) (se_callC c_first_unlike (hr.mono (by omega)) tk (sa_cons (mv 3) (sa_cons (mv 1) (sa_cons (mv 2) (sa_nil))))) S.nd)
      (ss_cons (sx_while 1000 (passes_of rfl) (st_cmp op_gt s2_gt (mv 6) (se_int) (nomark _))
      (ss_cons (sx_setT (se_callC c_telling_step (hr.mono (by omega)) tk (sa_cons (mv 0) (sa_cons (mv 5) (sa_cons (se_ix ix_seq s2_ix (mv 3) (se_bin op_sub s2_sub (mv 6) (se_int)) (fun _ _ => rfl)) (sa_cons (mv 1) (sa_cons (mv 2) (sa_nil))))))) (sg_tup (sgs_cons (sg_name (i := 7) S.nd) (sgs_cons (sg_name (i := 1) S.nd) (sgs_cons (sg_name (i := 2) S.nd) (sgs_nil)))) (many_cons (many_cons (many_cons many_nil)))))
      (ss_cons (sx_expr (se_bm PySem.F.plainAttrs_list PySem.F.slot_list_append PySem.F.type_list_append mt_append sty_list sm_append (mv 4) (sa_cons (mv 7) (sa_nil))))
      (ss_one (sx_set (i := 6) (se_callC c_first_unlike (hr.mono (by omega)) tk (sa_cons (mv 3) (sa_cons (mv 1) (sa_cons (mv 2) (sa_nil))))) S.nd)))))
      (ss_one (sx_ret (se_callTy call_tupF sn_tuple (by rfl) T.b_tuple (by decide +kernel) (sa_cons (mv 4) (sa_nil))))))))))
theorem sc__law_led : FnScope ["_law_machine_here", "_law_way_here", "_law_state", "_law_side", "_law_r"] ["_law_machine_here", "_law_way_here", "_law_state"] (defScope (top 24)) := ⟨rfl, rfl, rfl, by decide +kernel, rfl, by decide +kernel, by decide +kernel⟩
theorem sim__law_led (T : Txt K mg) (d : Df K mg "_law_led" (top 24) ["_law_machine_here", "_law_way_here", "_law_state"]) : Cal P w K mg base "_law_led" 1 (m_led_80fb4) := by
  exact cal_mk (k := 0) d sc__law_led fun f cdv A outer s H E hr => by
   have tk : Takes (cxOf (L2.CX P w) P w K mg base ["_law_machine_here", "_law_way_here", "_law_state", "_law_side", "_law_r"] "_law_led" (defScope (top 24)) f cdv A outer s H E) (fun c d _ H' => E c d H') := takes_of rfl rfl rfl rfl
   have hu : (A.deeper (PyProof.Rows.envOfC "_law_led" (defScope (top 24)) s.heap.objs.size f cdv)).units + 65 < cLine := by have := hr.un; omega
   have S := sc__law_led
   exact ss_cons (sx_for (passes_of rfl) (si_iter (mv 1)) (sg_tup (sgs_cons (sg_name (i := 3) S.nd) (sgs_cons (sg_name (i := 4) S.nd) (sgs_nil))) (many_cons (many_cons many_nil)))
      (ss_one (sx_if (st_cmp (op_eqA hu) s2_eq (mv 3) (se_int) (nomark _))
      (ss_one (sx_set (i := 2) (se_ix ix_seq s2_ix (se_ix ix_seq s2_ix (se_ix ix_seq s2_ix (mv 0) (se_int) (fun _ _ => rfl)) (mv 2) (fun _ _ => rfl)) (mv 4) (fun _ _ => rfl)) S.nd))
      (ss_one (sx_set (i := 2) (se_ix ix_seq s2_ix (se_ix ix_seq s2_ix (se_ix ix_seq s2_ix (mv 0) (se_int) (fun _ _ => rfl)) (mv 4) (fun _ _ => rfl)) (mv 2) (fun _ _ => rfl)) S.nd)))))
      (ss_one (sx_ret (mv 2)))
theorem sc__law_way : FnScope ["_law_way_here", "_law_machine_here", "_law_reached_here", "_law_p", "_law_q", "_law_step", "_law_part"] ["_law_way_here", "_law_machine_here", "_law_reached_here", "_law_p", "_law_q"] (defScope (top 25)) := ⟨rfl, rfl, rfl, by decide +kernel, rfl, by decide +kernel, by decide +kernel⟩
theorem sim__law_way (T : Txt K mg) (d : Df K mg "_law_way" (top 25) ["_law_way_here", "_law_machine_here", "_law_reached_here", "_law_p", "_law_q"]) (c__law_whole : Cal P w K mg base "_law_whole" 1 (m_whole_05e23)) (c__law_led : Cal P w K mg base "_law_led" 1 (m_led_80fb4)) : Cal P w K mg base "_law_way" 2 (m_way_035bf) := by
  exact cal_mk (k := 1) d sc__law_way fun f cdv A outer s H E hr => by
   have tk : Takes (cxOf (L2.CX P w) P w K mg base ["_law_way_here", "_law_machine_here", "_law_reached_here", "_law_p", "_law_q", "_law_step", "_law_part"] "_law_way" (defScope (top 25)) f cdv A outer s H E) (fun c d _ H' => E c d H') := takes_of rfl rfl rfl rfl
   have hu : (A.deeper (PyProof.Rows.envOfC "_law_way" (defScope (top 25)) s.heap.objs.size f cdv)).units + 65 < cLine := by have := hr.un; omega
   have S := sc__law_way
   exact ss_cons (sx_if (st_not (st_val (se_isi (mv 0) T.b_isinstance T.b_tuple (by decide +kernel))))
      (ss_one (sx_ret (se_bl)))
      (ss_nil))
      (ss_cons (sx_for (passes_of rfl) (si_iter (mv 0)) (sg_name (i := 5) S.nd)
      (ss_cons (sx_if ((sw_or (st_not (st_val (se_isi (mv 5) T.b_isinstance T.b_tuple (by decide +kernel)))) (sw_or (st_cmp (op_neA hu) s2_ne (se_callB call_len sn_len (by rfl) T.b_len (by decide +kernel) (sa_cons (mv 5) (sa_nil))) (se_int) (nomark _)) (sw_or1 (st_not (st_val (se_callB (cr_all rfl) sn_all (by rfl) T.b_all (by decide +kernel) (sa_cons (se_lc (own := [("_law_part", 6)]) S.nd (si_iter (mv 5)) (blkOk_by (N := ["_law_way_here", "_law_machine_here", "_law_reached_here", "_law_p", "_law_q", "_law_step", "_law_part"]) (sc := defScope (top 25)) (by decide +kernel)) (tg_name 6) (fun _ _ _ _ _ => pg_name (i := 6) S.nd rfl (by first | exact Or.inl rfl | exact Or.inr rfl)) (fun _ _ _ _ _ => st_nil) (fun _ _ _ _ _ => se_callC c__law_whole (hr.mono (by omega)) takes0 (sa_cons (mv 6) (sa_nil)))) (sa_nil)))))))).pt)
      (ss_one (sx_ret (se_bl)))
      (ss_nil))
      (ss_one (sx_if ((sw_or (st_not (st_chain op_le s2_le op_le s2_le (se_int) (se_ix ix_seq s2_ix (mv 5) (se_int) (fun _ _ => rfl)) (se_int))) (sw_or1 (st_cmp (op_notInA hu) s2_notIn (se_ix ix_seq s2_ix (mv 5) (se_int) (fun _ _ => rfl)) (mv 2) rfl))).pt)
      (ss_one (sx_ret (se_bl)))
      (ss_nil)))))
      (ss_one (sx_ret (se_cmp (op_neA hu) s2_ne (se_ix ix_seq s2_ix (se_ix ix_seq s2_ix (mv 1) (se_int) (fun _ _ => rfl)) (se_callC c__law_led (hr.mono (by omega)) tk (sa_cons (mv 1) (sa_cons (mv 0) (sa_cons (mv 3) (sa_nil))))) (fun _ _ => rfl)) (se_ix ix_seq s2_ix (se_ix ix_seq s2_ix (mv 1) (se_int) (fun _ _ => rfl)) (se_callC c__law_led (hr.mono (by omega)) tk (sa_cons (mv 1) (sa_cons (mv 0) (sa_cons (mv 4) (sa_nil))))) (fun _ _ => rfl)) (nomark _)))))
theorem sc_law : FnScope ["_law_script", "_law_machine_here", "_law_reached_here", "_law_found", "_law_many", "_law_pairs", "_law_cell", "_law_p", "_law_q", "_law_way_here"] ["_law_script"] (defScope (top 26)) := ⟨rfl, rfl, rfl, by decide +kernel, rfl, by decide +kernel, by decide +kernel⟩
theorem sim_law {fa : Addr} {fd : FuncData} (T : Txt K mg) (F : Fun K "law" "law" (top 26) fa fd) (c__law_one : Cal P w K mg base "_law_one" 3 (m_one_9da12)) (c__law_reached : Cal P w K mg base "_law_reached" 1 (m_reached_2ae6f)) (c_alike : Cal P w K mg base "alike" 5 (m_alike_62182)) (c__law_classes : Cal P w K mg base "_law_classes" 2 (m_classes_a41b6)) (c__law_cell_at : Cal P w K mg base "_law_cell_at" 1 (m_cell_at_2c4cb)) (c_apart : Cal P w K mg base "apart" 5 (m_apart_4d1da)) (c__law_way : Cal P w K mg base "_law_way" 2 (m_way_035bf)) : FnOk P w K mg base (L2.CX P w) 6 fa fd ["_law_script"] (spM (gOf w K) m_law_a349c) := by
  exact fn_mk (k := 5) F sc_law fun cdv A outer s H E hr => by
   have tk : Takes (cxOf (L2.CX P w) P w K mg base ["_law_script", "_law_machine_here", "_law_reached_here", "_law_found", "_law_many", "_law_pairs", "_law_cell", "_law_p", "_law_q", "_law_way_here"] "law" (defScope (top 26)) fa cdv A outer s H E) (fun c d _ H' => E c d H') := takes_of rfl rfl rfl rfl
   have hu : (A.deeper (PyProof.Rows.envOfC "law" (defScope (top 26)) s.heap.objs.size fa cdv)).units + 65 < cLine := by have := hr.un; omega
   have S := sc_law
   exact ss_cons (sx_set (i := 1) (se_callC c__law_one (hr.mono (by omega)) tk (sa_cons (mv 0) (sa_nil))) S.nd)
      (ss_cons (sx_set (i := 2) (se_callC c__law_reached (hr.mono (by omega)) tk (sa_cons (mv 1) (sa_nil))) S.nd)
      (ss_cons (sx_set (i := 3) (se_callC c_alike (hr.mono (by omega)) tk (sa_cons (mv 1) (sa_nil))) S.nd)
      (ss_cons (sx_if (st_not (st_val (se_callC c__law_classes (hr.mono (by omega)) tk (sa_cons (mv 3) (sa_cons (mv 1) (sa_cons (mv 2) (sa_nil)))))))
      (ss_one (sx_ret (se_bl)))
      (ss_nil))
      (ss_cons (sx_set (i := 4) (se_callB call_len sn_len (by rfl) T.b_len (by decide +kernel) (sa_cons (se_ix ix_seq s2_ix (mv 1) (se_int) (fun _ _ => rfl)) (sa_nil))) S.nd)
      (ss_cons ((by first | exact sx_setLc (own := [("_law_p", 7)]) (i := 5) S.nd (si_range1 T.b_range (se_callB (call_min2 rfl) sn_min (by rfl) T.b_min (by decide +kernel) (sa_cons (mv 4) (sa_cons (se_int) (sa_nil))))) (blkOk_by (N := ["_law_script", "_law_machine_here", "_law_reached_here", "_law_found", "_law_many", "_law_pairs", "_law_cell", "_law_p", "_law_q", "_law_way_here"]) (sc := defScope (top 26)) (by decide +kernel)) (tg_name 7) (fun _ _ _ _ _ => pg_name (i := 7) S.nd rfl (by first | exact Or.inl rfl | exact Or.inr rfl)) (fun _ _ _ _ _ => st_nil) (fun _ _ _ _ _ => se_tup (sa_cons (mv 7) (sa_cons (se_bin op_mod s2_mod (se_bin op_addA s2_add (se_bin op_addA s2_add (mv 7) (se_int)) (se_bin op_fdivW s2_fdiv (se_callC c__law_cell_at (hr.mono (by omega)) takes0 (sa_cons (mv 0) (sa_cons (se_int) (sa_nil)))) (se_int))) (mv 4)) (sa_nil)))) | exact sx_set (i := 5) (se_lc (own := [("_law_p", 7)]) S.nd (si_range1 T.b_range (se_callB (call_min2 rfl) sn_min (by rfl) T.b_min (by decide +kernel) (sa_cons (mv 4) (sa_cons (se_int) (sa_nil))))) (blkOk_by (N := ["_law_script", "_law_machine_here", "_law_reached_here", "_law_found", "_law_many", "_law_pairs", "_law_cell", "_law_p", "_law_q", "_law_way_here"]) (sc := defScope (top 26)) (by decide +kernel)) (tg_name 7) (fun _ _ _ _ _ => pg_name (i := 7) S.nd rfl (by first | exact Or.inl rfl | exact Or.inr rfl)) (fun _ _ _ _ _ => st_nil) (fun _ _ _ _ _ => se_tup (sa_cons (mv 7) (sa_cons (se_bin op_mod s2_mod (se_bin op_addA s2_add (se_bin op_addA s2_add (mv 7) (se_int)) (se_bin op_fdivW s2_fdiv (se_callC c__law_cell_at (hr.mono (by omega)) takes0 (sa_cons (mv 0) (sa_cons (se_int) (sa_nil)))) (se_int))) (mv 4)) (sa_nil))))) S.nd))
      (ss_cons (sx_for (passes_of rfl) (si_iter (se_slice (mv 0) (sp_some (se_int)) (sp_some (se_int)))) (sg_name (i := 6) S.nd)
      (ss_one (sx_expr (se_bm PySem.F.plainAttrs_list PySem.F.slot_list_append PySem.F.type_list_append mt_append sty_list sm_append (mv 5) (sa_cons (se_tup (sa_cons (se_bin op_mod s2_mod (mv 6) (mv 4)) (sa_cons (se_bin op_mod s2_mod (se_bin op_fdivW s2_fdiv (mv 6) (mv 4)) (mv 4)) (sa_nil)))) (sa_nil))))))
      (ss_cons (sx_for (passes_of rfl) (si_iter (mv 5)) (sg_tup (sgs_cons (sg_name (i := 7) S.nd) (sgs_cons (sg_name (i := 8) S.nd) (sgs_nil))) (many_cons (many_cons many_nil)))
      (ss_cons (sx_set (i := 9) (se_callC c_apart (hr.mono (by omega)) tk (sa_cons (mv 1) (sa_cons (mv 7) (sa_cons (mv 8) (sa_nil))))) S.nd)
      (ss_one (sx_if (st_cmp (op_eqA hu) s2_eq (se_ix ix_seq s2_ix (mv 3) (mv 7) (fun _ _ => rfl)) (se_ix ix_seq s2_ix (mv 3) (mv 8) (fun _ _ => rfl)) (nomark _))
      (ss_one (sx_if (st_cmp op_notN s2_notN (mv 9) (se_non) (nomark _))
      (ss_one (sx_ret (se_bl)))
      (ss_nil)))
      (ss_one (sx_if (st_not (st_val (se_callC c__law_way (hr.mono (by omega)) tk (sa_cons (mv 9) (sa_cons (mv 1) (sa_cons (mv 2) (sa_cons (mv 7) (sa_cons (mv 8) (sa_nil)))))))))
      (ss_one (sx_ret (se_bl)))
      (ss_nil)))))))
      (ss_one (sx_ret (se_bl))))))))))
end
theorem all_mk {l : PySem.W.OpenLaw} {w : World} {K : PySem.W.Frag} {h : Heap} {mg : Str → Option Value} {fa : Addr} (X : K.In h) (G : h.Ns mainGlobals mg) (hfa : mg "law" = some (.ref fa))
    {f0 : Addr} {od0 an0 : Option Addr} {sl0 : Array (Option Value)} {oc0 kV0 dc0 pm0 cd0 ct0 : Value} {f1 : Addr} {od1 an1 : Option Addr} {sl1 : Array (Option Value)} {oc1 kV1 dc1 pm1 cd1 ct1 : Value} {f2 : Addr} {od2 an2 : Option Addr} {sl2 : Array (Option Value)} {oc2 kV2 dc2 pm2 cd2 ct2 : Value} {f3 : Addr} {od3 an3 : Option Addr} {sl3 : Array (Option Value)} {oc3 kV3 dc3 pm3 cd3 ct3 : Value} {f4 : Addr} {od4 an4 : Option Addr} {sl4 : Array (Option Value)} {oc4 kV4 dc4 pm4 cd4 ct4 : Value} {f5 : Addr} {od5 an5 : Option Addr} {sl5 : Array (Option Value)} {oc5 kV5 dc5 pm5 cd5 ct5 : Value} {f6 : Addr} {od6 an6 : Option Addr} {sl6 : Array (Option Value)} {oc6 kV6 dc6 pm6 cd6 ct6 : Value} {f7 : Addr} {od7 an7 : Option Addr} {sl7 : Array (Option Value)} {oc7 kV7 dc7 pm7 cd7 ct7 : Value} {f8 : Addr} {od8 an8 : Option Addr} {sl8 : Array (Option Value)} {oc8 kV8 dc8 pm8 cd8 ct8 : Value} {f9 : Addr} {od9 an9 : Option Addr} {sl9 : Array (Option Value)} {oc9 kV9 dc9 pm9 cd9 ct9 : Value} {f10 : Addr} {od10 an10 : Option Addr} {sl10 : Array (Option Value)} {oc10 kV10 dc10 pm10 cd10 ct10 : Value} {f11 : Addr} {od11 an11 : Option Addr} {sl11 : Array (Option Value)} {oc11 kV11 dc11 pm11 cd11 ct11 : Value} {f12 : Addr} {od12 an12 : Option Addr} {sl12 : Array (Option Value)} {oc12 kV12 dc12 pm12 cd12 ct12 : Value} {f13 : Addr} {od13 an13 : Option Addr} {sl13 : Array (Option Value)} {oc13 kV13 dc13 pm13 cd13 ct13 : Value} {f14 : Addr} {od14 an14 : Option Addr} {sl14 : Array (Option Value)} {oc14 kV14 dc14 pm14 cd14 ct14 : Value} {f15 : Addr} {od15 an15 : Option Addr} {sl15 : Array (Option Value)} {oc15 kV15 dc15 pm15 cd15 ct15 : Value} {f16 : Addr} {od16 an16 : Option Addr} {sl16 : Array (Option Value)} {oc16 kV16 dc16 pm16 cd16 ct16 : Value} {f17 : Addr} {od17 an17 : Option Addr} {sl17 : Array (Option Value)} {oc17 kV17 dc17 pm17 cd17 ct17 : Value} {f18 : Addr} {od18 an18 : Option Addr} {sl18 : Array (Option Value)} {oc18 kV18 dc18 pm18 cd18 ct18 : Value} {f19 : Addr} {od19 an19 : Option Addr} {sl19 : Array (Option Value)} {oc19 kV19 dc19 pm19 cd19 ct19 : Value} {f20 : Addr} {od20 an20 : Option Addr} {sl20 : Array (Option Value)} {oc20 kV20 dc20 pm20 cd20 ct20 : Value} {f21 : Addr} {od21 an21 : Option Addr} {sl21 : Array (Option Value)} {oc21 kV21 dc21 pm21 cd21 ct21 : Value} {f22 : Addr} {od22 an22 : Option Addr} {sl22 : Array (Option Value)} {oc22 kV22 dc22 pm22 cd22 ct22 : Value} {f23 : Addr} {od23 an23 : Option Addr} {sl23 : Array (Option Value)} {oc23 kV23 dc23 pm23 cd23 ct23 : Value}
    (a0 : PySem.W.nsIn K mainGlobals "_law_any_names" = some (some (.ref f0)))
    (l0 : K.lookup f0 = some ⟨oc0, od0, .func (PySem.W.fnOf "_law_any_names" "_law_any_names" (defArgs (top 14)) (defBody (top 14)) (defScope (top 14)) .none kV0 dc0 pm0 an0 cd0 ct0), sl0⟩) (e0 : PySem.W.codeIn K cd0 "_law_any_names" = true) (k0 : PySem.W.keepIn K (.ref f0) = true)
    (a1 : PySem.W.nsIn K mainGlobals "_law_names" = some (some (.ref f1)))
    (l1 : K.lookup f1 = some ⟨oc1, od1, .func (PySem.W.fnOf "_law_names" "_law_names" (defArgs (top 15)) (defBody (top 15)) (defScope (top 15)) .none kV1 dc1 pm1 an1 cd1 ct1), sl1⟩) (e1 : PySem.W.codeIn K cd1 "_law_names" = true) (k1 : PySem.W.keepIn K (.ref f1) = true)
    (a2 : PySem.W.nsIn K mainGlobals "_law_cell_at" = some (some (.ref f2)))
    (l2 : K.lookup f2 = some ⟨oc2, od2, .func (PySem.W.fnOf "_law_cell_at" "_law_cell_at" (defArgs (top 12)) (defBody (top 12)) (defScope (top 12)) .none kV2 dc2 pm2 an2 cd2 ct2), sl2⟩) (e2 : PySem.W.codeIn K cd2 "_law_cell_at" = true) (k2 : PySem.W.keepIn K (.ref f2) = true)
    (a3 : PySem.W.nsIn K mainGlobals "_law_numbers" = some (some (.ref f3)))
    (l3 : K.lookup f3 = some ⟨oc3, od3, .func (PySem.W.fnOf "_law_numbers" "_law_numbers" (defArgs (top 13)) (defBody (top 13)) (defScope (top 13)) .none kV3 dc3 pm3 an3 cd3 ct3), sl3⟩) (e3 : PySem.W.codeIn K cd3 "_law_numbers" = true) (k3 : PySem.W.keepIn K (.ref f3) = true)
    (a4 : PySem.W.nsIn K mainGlobals "_law_machine" = some (some (.ref f4)))
    (l4 : K.lookup f4 = some ⟨oc4, od4, .func (PySem.W.fnOf "_law_machine" "_law_machine" (defArgs (top 16)) (defBody (top 16)) (defScope (top 16)) .none kV4 dc4 pm4 an4 cd4 ct4), sl4⟩) (e4 : PySem.W.codeIn K cd4 "_law_machine" = true) (k4 : PySem.W.keepIn K (.ref f4) = true)
    (a5 : PySem.W.nsIn K mainGlobals "_law_like_on_a_side" = some (some (.ref f5)))
    (l5 : K.lookup f5 = some ⟨oc5, od5, .func (PySem.W.fnOf "_law_like_on_a_side" "_law_like_on_a_side" (defArgs (top 18)) (defBody (top 18)) (defScope (top 18)) .none kV5 dc5 pm5 an5 cd5 ct5), sl5⟩) (e5 : PySem.W.codeIn K cd5 "_law_like_on_a_side" = true) (k5 : PySem.W.keepIn K (.ref f5) = true)
    (a6 : PySem.W.nsIn K mainGlobals "_law_counter" = some (some (.ref f6)))
    (l6 : K.lookup f6 = some ⟨oc6, od6, .func (PySem.W.fnOf "_law_counter" "_law_counter" (defArgs (top 19)) (defBody (top 19)) (defScope (top 19)) .none kV6 dc6 pm6 an6 cd6 ct6), sl6⟩) (e6 : PySem.W.codeIn K cd6 "_law_counter" = true) (k6 : PySem.W.keepIn K (.ref f6) = true)
    (a7 : PySem.W.nsIn K mainGlobals "_law_twins" = some (some (.ref f7)))
    (l7 : K.lookup f7 = some ⟨oc7, od7, .func (PySem.W.fnOf "_law_twins" "_law_twins" (defArgs (top 17)) (defBody (top 17)) (defScope (top 17)) .none kV7 dc7 pm7 an7 cd7 ct7), sl7⟩) (e7 : PySem.W.codeIn K cd7 "_law_twins" = true) (k7 : PySem.W.keepIn K (.ref f7) = true)
    (a8 : PySem.W.nsIn K mainGlobals "_law_one" = some (some (.ref f8)))
    (l8 : K.lookup f8 = some ⟨oc8, od8, .func (PySem.W.fnOf "_law_one" "_law_one" (defArgs (top 20)) (defBody (top 20)) (defScope (top 20)) .none kV8 dc8 pm8 an8 cd8 ct8), sl8⟩) (e8 : PySem.W.codeIn K cd8 "_law_one" = true) (k8 : PySem.W.keepIn K (.ref f8) = true)
    (a9 : PySem.W.nsIn K mainGlobals "_law_reached" = some (some (.ref f9)))
    (l9 : K.lookup f9 = some ⟨oc9, od9, .func (PySem.W.fnOf "_law_reached" "_law_reached" (defArgs (top 21)) (defBody (top 21)) (defScope (top 21)) .none kV9 dc9 pm9 an9 cd9 ct9), sl9⟩) (e9 : PySem.W.codeIn K cd9 "_law_reached" = true) (k9 : PySem.W.keepIn K (.ref f9) = true)
    (a10 : PySem.W.nsIn K mainGlobals "lowered" = some (some (.ref f10)))
    (l10 : K.lookup f10 = some ⟨oc10, od10, .func (PySem.W.fnOf "lowered" "lowered" (defArgs (top 1)) (defBody (top 1)) (defScope (top 1)) .none kV10 dc10 pm10 an10 cd10 ct10), sl10⟩) (e10 : PySem.W.codeIn K cd10 "lowered" = true) (k10 : PySem.W.keepIn K (.ref f10) = true)
    (a11 : PySem.W.nsIn K mainGlobals "sizes" = some (some (.ref f11)))
    (l11 : K.lookup f11 = some ⟨oc11, od11, .func (PySem.W.fnOf "sizes" "sizes" (defArgs (top 2)) (defBody (top 2)) (defScope (top 2)) .none kV11 dc11 pm11 an11 cd11 ct11), sl11⟩) (e11 : PySem.W.codeIn K cd11 "sizes" = true) (k11 : PySem.W.keepIn K (.ref f11) = true)
    (a12 : PySem.W.nsIn K mainGlobals "partners" = some (some (.ref f12)))
    (l12 : K.lookup f12 = some ⟨oc12, od12, .func (PySem.W.fnOf "partners" "partners" (defArgs (top 4)) (defBody (top 4)) (defScope (top 4)) .none kV12 dc12 pm12 an12 cd12 ct12), sl12⟩) (e12 : PySem.W.codeIn K cd12 "partners" = true) (k12 : PySem.W.keepIn K (.ref f12) = true)
    (a13 : PySem.W.nsIn K mainGlobals "finer" = some (some (.ref f13)))
    (l13 : K.lookup f13 = some ⟨oc13, od13, .func (PySem.W.fnOf "finer" "finer" (defArgs (top 5)) (defBody (top 5)) (defScope (top 5)) .none kV13 dc13 pm13 an13 cd13 ct13), sl13⟩) (e13 : PySem.W.codeIn K cd13 "finer" = true) (k13 : PySem.W.keepIn K (.ref f13) = true)
    (a14 : PySem.W.nsIn K mainGlobals "rounds" = some (some (.ref f14)))
    (l14 : K.lookup f14 = some ⟨oc14, od14, .func (PySem.W.fnOf "rounds" "rounds" (defArgs (top 6)) (defBody (top 6)) (defScope (top 6)) .none kV14 dc14 pm14 an14 cd14 ct14), sl14⟩) (e14 : PySem.W.codeIn K cd14 "rounds" = true) (k14 : PySem.W.keepIn K (.ref f14) = true)
    (a15 : PySem.W.nsIn K mainGlobals "alike" = some (some (.ref f15)))
    (l15 : K.lookup f15 = some ⟨oc15, od15, .func (PySem.W.fnOf "alike" "alike" (defArgs (top 7)) (defBody (top 7)) (defScope (top 7)) .none kV15 dc15 pm15 an15 cd15 ct15), sl15⟩) (e15 : PySem.W.codeIn K cd15 "alike" = true) (k15 : PySem.W.keepIn K (.ref f15) = true)
    (a16 : PySem.W.nsIn K mainGlobals "_law_whole" = some (some (.ref f16)))
    (l16 : K.lookup f16 = some ⟨oc16, od16, .func (PySem.W.fnOf "_law_whole" "_law_whole" (defArgs (top 22)) (defBody (top 22)) (defScope (top 22)) .none kV16 dc16 pm16 an16 cd16 ct16), sl16⟩) (e16 : PySem.W.codeIn K cd16 "_law_whole" = true) (k16 : PySem.W.keepIn K (.ref f16) = true)
    (a17 : PySem.W.nsIn K mainGlobals "_law_classes" = some (some (.ref f17)))
    (l17 : K.lookup f17 = some ⟨oc17, od17, .func (PySem.W.fnOf "_law_classes" "_law_classes" (defArgs (top 23)) (defBody (top 23)) (defScope (top 23)) .none kV17 dc17 pm17 an17 cd17 ct17), sl17⟩) (e17 : PySem.W.codeIn K cd17 "_law_classes" = true) (k17 : PySem.W.keepIn K (.ref f17) = true)
    (a18 : PySem.W.nsIn K mainGlobals "first_unlike" = some (some (.ref f18)))
    (l18 : K.lookup f18 = some ⟨oc18, od18, .func (PySem.W.fnOf "first_unlike" "first_unlike" (defArgs (top 9)) (defBody (top 9)) (defScope (top 9)) .none kV18 dc18 pm18 an18 cd18 ct18), sl18⟩) (e18 : PySem.W.codeIn K cd18 "first_unlike" = true) (k18 : PySem.W.keepIn K (.ref f18) = true)
    (a19 : PySem.W.nsIn K mainGlobals "telling_step" = some (some (.ref f19)))
    (l19 : K.lookup f19 = some ⟨oc19, od19, .func (PySem.W.fnOf "telling_step" "telling_step" (defArgs (top 8)) (defBody (top 8)) (defScope (top 8)) .none kV19 dc19 pm19 an19 cd19 ct19), sl19⟩) (e19 : PySem.W.codeIn K cd19 "telling_step" = true) (k19 : PySem.W.keepIn K (.ref f19) = true)
    (a20 : PySem.W.nsIn K mainGlobals "apart" = some (some (.ref f20)))
    (l20 : K.lookup f20 = some ⟨oc20, od20, .func (PySem.W.fnOf "apart" "apart" (defArgs (top 10)) (defBody (top 10)) (defScope (top 10)) .none kV20 dc20 pm20 an20 cd20 ct20), sl20⟩) (e20 : PySem.W.codeIn K cd20 "apart" = true) (k20 : PySem.W.keepIn K (.ref f20) = true)
    (a21 : PySem.W.nsIn K mainGlobals "_law_led" = some (some (.ref f21)))
    (l21 : K.lookup f21 = some ⟨oc21, od21, .func (PySem.W.fnOf "_law_led" "_law_led" (defArgs (top 24)) (defBody (top 24)) (defScope (top 24)) .none kV21 dc21 pm21 an21 cd21 ct21), sl21⟩) (e21 : PySem.W.codeIn K cd21 "_law_led" = true) (k21 : PySem.W.keepIn K (.ref f21) = true)
    (a22 : PySem.W.nsIn K mainGlobals "_law_way" = some (some (.ref f22)))
    (l22 : K.lookup f22 = some ⟨oc22, od22, .func (PySem.W.fnOf "_law_way" "_law_way" (defArgs (top 25)) (defBody (top 25)) (defScope (top 25)) .none kV22 dc22 pm22 an22 cd22 ct22), sl22⟩) (e22 : PySem.W.codeIn K cd22 "_law_way" = true) (k22 : PySem.W.keepIn K (.ref f22) = true)
    (a23 : PySem.W.nsIn K mainGlobals "law" = some (some (.ref f23)))
    (l23 : K.lookup f23 = some ⟨oc23, od23, .func (PySem.W.fnOf "law" "law" (defArgs (top 26)) (defBody (top 26)) (defScope (top 26)) .none kV23 dc23 pm23 an23 cd23 ct23), sl23⟩) (e23 : PySem.W.codeIn K cd23 "law" = true) (k23 : PySem.W.keepIn K (.ref f23) = true)
    (zb_all : PySem.W.nsIn K mainGlobals "all" = some none)
    (zb_bool : PySem.W.nsIn K mainGlobals "bool" = some none)
    (zb_int : PySem.W.nsIn K mainGlobals "int" = some none)
    (zb_isinstance : PySem.W.nsIn K mainGlobals "isinstance" = some none)
    (zb_len : PySem.W.nsIn K mainGlobals "len" = some none)
    (zb_list : PySem.W.nsIn K mainGlobals "list" = some none)
    (zb_max : PySem.W.nsIn K mainGlobals "max" = some none)
    (zb_min : PySem.W.nsIn K mainGlobals "min" = some none)
    (zb_range : PySem.W.nsIn K mainGlobals "range" = some none)
    (zb_sorted : PySem.W.nsIn K mainGlobals "sorted" = some none)
    (zb_tuple : PySem.W.nsIn K mainGlobals "tuple" = some none) :
    ∃ fd : FuncData, (∀ (s : Shared) (v : Value), BindsTo s fd ⟨[v], []⟩ [("_law_script", v)]) ∧ ∀ base : Heap, K.In base → base.Ns mainGlobals mg → FnOk l.prog w K mg base (L2.CX l.prog w) 6 fa fd ["_law_script"] (spM (gOf w K) m_law_a349c) := by
  have T : Txt K mg := ⟨PySem.W.mg_none_of X G zb_all, PySem.W.mg_none_of X G zb_bool, PySem.W.mg_none_of X G zb_int, PySem.W.mg_none_of X G zb_isinstance, PySem.W.mg_none_of X G zb_len, PySem.W.mg_none_of X G zb_list, PySem.W.mg_none_of X G zb_max, PySem.W.mg_none_of X G zb_min, PySem.W.mg_none_of X G zb_range, PySem.W.mg_none_of X G zb_sorted, PySem.W.mg_none_of X G zb_tuple⟩
  have d0 : Df K mg "_law_any_names" (top 14) ["_law_cell", "_law_many"] := df_mk X G a0 l0 e0 k0 fun _ _ _ _ _ _ us hl => match us, hl with | [_, _], _ => rfl
  have c0 : ∀ base : Heap, Cal l.prog w K mg base "_law_any_names" 1 (m_any_names_23d34) := fun base => sim__law_any_names T d0
  have d1 : Df K mg "_law_names" (top 15) ["_law_cell", "_law_many"] := df_mk X G a1 l1 e1 k1 fun _ _ _ _ _ _ us hl => match us, hl with | [_, _], _ => rfl
  have c1 : ∀ base : Heap, Cal l.prog w K mg base "_law_names" 2 (m_names_53c1e) := fun base => sim__law_names T d1 (c0 base)
  have d2 : Df K mg "_law_cell_at" (top 12) ["_law_script", "_law_k"] := df_mk X G a2 l2 e2 k2 fun _ _ _ _ _ _ us hl => match us, hl with | [_, _], _ => rfl
  have c2 : ∀ base : Heap, Cal l.prog w K mg base "_law_cell_at" 1 (m_cell_at_2c4cb) := fun base => sim__law_cell_at T d2
  have d3 : Df K mg "_law_numbers" (top 13) ["_law_script", "_law_start", "_law_many"] := df_mk X G a3 l3 e3 k3 fun _ _ _ _ _ _ us hl => match us, hl with | [_, _, _], _ => rfl
  have c3 : ∀ base : Heap, Cal l.prog w K mg base "_law_numbers" 2 (m_numbers_0d805) := fun base => sim__law_numbers T d3 (c2 base)
  have d4 : Df K mg "_law_machine" (top 16) ["_law_xs", "_law_many", "_law_forms", "_law_names_here"] := df_mk X G a4 l4 e4 k4 fun _ _ _ _ _ _ us hl => match us, hl with | [_, _, _, _], _ => rfl
  have c4 : ∀ base : Heap, Cal l.prog w K mg base "_law_machine" 1 (m_machine_76c53) := fun base => sim__law_machine T d4
  have d5 : Df K mg "_law_like_on_a_side" (top 18) ["_law_machine_here", "_law_p", "_law_q", "_law_side"] := df_mk X G a5 l5 e5 k5 fun _ _ _ _ _ _ us hl => match us, hl with | [_, _, _, _], _ => rfl
  have c5 : ∀ base : Heap, Cal l.prog w K mg base "_law_like_on_a_side" 1 (m_like_on_a_side_2a257) := fun base => sim__law_like_on_a_side T d5
  have d6 : Df K mg "_law_counter" (top 19) ["_law_xs", "_law_forms", "_law_names_here"] := df_mk X G a6 l6 e6 k6 fun _ _ _ _ _ _ us hl => match us, hl with | [_, _, _], _ => rfl
  have c6 : ∀ base : Heap, Cal l.prog w K mg base "_law_counter" 1 (m_counter_24df0) := fun base => sim__law_counter T d6
  have d7 : Df K mg "_law_twins" (top 17) ["_law_xs", "_law_machine_here", "_law_many", "_law_turned_about"] := df_mk X G a7 l7 e7 k7 fun _ _ _ _ _ _ us hl => match us, hl with | [_, _, _, _], _ => rfl
  have c7 : ∀ base : Heap, Cal l.prog w K mg base "_law_twins" 1 (m_twins_efdf6) := fun base => sim__law_twins T d7
  have d8 : Df K mg "_law_one" (top 20) ["_law_script"] := df_mk X G a8 l8 e8 k8 fun _ _ _ _ _ _ us hl => match us, hl with | [_], _ => rfl
  have c8 : ∀ base : Heap, Cal l.prog w K mg base "_law_one" 3 (m_one_9da12) := fun base => sim__law_one T d8 (c1 base) (c2 base) (c3 base) (c4 base) (c5 base) (c6 base) (c7 base)
  have d9 : Df K mg "_law_reached" (top 21) ["_law_machine_here"] := df_mk X G a9 l9 e9 k9 fun _ _ _ _ _ _ us hl => match us, hl with | [_], _ => rfl
  have c9 : ∀ base : Heap, Cal l.prog w K mg base "_law_reached" 1 (m_reached_2ae6f) := fun base => sim__law_reached T d9
  have d10 : Df K mg "lowered" (top 1) ["machine", "found"] := df_mk X G a10 l10 e10 k10 fun _ _ _ _ _ _ us hl => match us, hl with | [_, _], _ => rfl
  have c10 : ∀ base : Heap, Cal l.prog w K mg base "lowered" 1 (m_lowered_0b90e) := fun base => sim_lowered T d10
  have d11 : Df K mg "sizes" (top 2) ["machine"] := df_mk X G a11 l11 e11 k11 fun _ _ _ _ _ _ us hl => match us, hl with | [_], _ => rfl
  have c11 : ∀ base : Heap, Cal l.prog w K mg base "sizes" 2 (m_sizes_9dfee) := fun base => sim_sizes T d11 (c10 base)
  have d12 : Df K mg "partners" (top 4) ["machine"] := df_mk X G a12 l12 e12 k12 fun _ _ _ _ _ _ us hl => match us, hl with | [_], _ => rfl
  have c12 : ∀ base : Heap, Cal l.prog w K mg base "partners" 3 (m_partners_f0b60) := fun base => sim_partners T d12 (c11 base)
  have d13 : Df K mg "finer" (top 5) ["machine", "classes", "some"] := df_mk X G a13 l13 e13 k13 fun _ _ _ _ _ _ us hl => match us, hl with | [_, _, _], _ => rfl
  have c13 : ∀ base : Heap, Cal l.prog w K mg base "finer" 1 (m_finer_10ac3) := fun base => sim_finer T d13
  have d14 : Df K mg "rounds" (top 6) ["machine"] := df_mk X G a14 l14 e14 k14 fun _ _ _ _ _ _ us hl => match us, hl with | [_], _ => rfl
  have c14 : ∀ base : Heap, Cal l.prog w K mg base "rounds" 4 (m_rounds_f8746) := fun base => sim_rounds T d14 (c12 base) (c13 base)
  have d15 : Df K mg "alike" (top 7) ["machine"] := df_mk X G a15 l15 e15 k15 fun _ _ _ _ _ _ us hl => match us, hl with | [_], _ => rfl
  have c15 : ∀ base : Heap, Cal l.prog w K mg base "alike" 5 (m_alike_62182) := fun base => sim_alike T d15 (c14 base)
  have d16 : Df K mg "_law_whole" (top 22) ["_law_found"] := df_mk X G a16 l16 e16 k16 fun _ _ _ _ _ _ us hl => match us, hl with | [_], _ => rfl
  have c16 : ∀ base : Heap, Cal l.prog w K mg base "_law_whole" 1 (m_whole_05e23) := fun base => sim__law_whole T d16
  have d17 : Df K mg "_law_classes" (top 23) ["_law_found", "_law_machine_here", "_law_reached_here"] := df_mk X G a17 l17 e17 k17 fun _ _ _ _ _ _ us hl => match us, hl with | [_, _, _], _ => rfl
  have c17 : ∀ base : Heap, Cal l.prog w K mg base "_law_classes" 2 (m_classes_a41b6) := fun base => sim__law_classes T d17 (c16 base)
  have d18 : Df K mg "first_unlike" (top 9) ["history", "one", "other"] := df_mk X G a18 l18 e18 k18 fun _ _ _ _ _ _ us hl => match us, hl with | [_, _, _], _ => rfl
  have c18 : ∀ base : Heap, Cal l.prog w K mg base "first_unlike" 1 (m_first_unlike_550e4) := fun base => sim_first_unlike T d18
  have d19 : Df K mg "telling_step" (top 8) ["machine", "some", "classes", "one", "other"] := df_mk X G a19 l19 e19 k19 fun _ _ _ _ _ _ us hl => match us, hl with | [_, _, _, _, _], _ => rfl
  have c19 : ∀ base : Heap, Cal l.prog w K mg base "telling_step" 1 (m_telling_step_31d40) := fun base => sim_telling_step T d19
  have d20 : Df K mg "apart" (top 10) ["machine", "one", "other"] := df_mk X G a20 l20 e20 k20 fun _ _ _ _ _ _ us hl => match us, hl with | [_, _, _], _ => rfl
  have c20 : ∀ base : Heap, Cal l.prog w K mg base "apart" 5 (m_apart_4d1da) := fun base => sim_apart T d20 (c14 base) (c12 base) (c18 base) (c19 base)
  have d21 : Df K mg "_law_led" (top 24) ["_law_machine_here", "_law_way_here", "_law_state"] := df_mk X G a21 l21 e21 k21 fun _ _ _ _ _ _ us hl => match us, hl with | [_, _, _], _ => rfl
  have c21 : ∀ base : Heap, Cal l.prog w K mg base "_law_led" 1 (m_led_80fb4) := fun base => sim__law_led T d21
  have d22 : Df K mg "_law_way" (top 25) ["_law_way_here", "_law_machine_here", "_law_reached_here", "_law_p", "_law_q"] := df_mk X G a22 l22 e22 k22 fun _ _ _ _ _ _ us hl => match us, hl with | [_, _, _, _, _], _ => rfl
  have c22 : ∀ base : Heap, Cal l.prog w K mg base "_law_way" 2 (m_way_035bf) := fun base => sim__law_way T d22 (c16 base) (c21 base)
  have ea := hfa.symm.trans (PySem.W.mg_of X G a23)
  cases ea
  have F := fun_mk (st := top 26) l23 e23 k23
  exact ⟨PySem.W.fnOf "law" "law" (defArgs (top 26)) (defBody (top 26)) (defScope (top 26)) .none kV23 dc23 pm23 an23 cd23 ct23, fun s v => .of_eq rfl, fun base _ _ => sim_law T F (c8 base) (c9 base) (c15 base) (c17 base) (c2 base) (c20 base) (c22 base)⟩
end Sk54

open PySem PySem.W PyProof.Rows
set_option maxRecDepth 100000 in
set_option maxHeartbeats 0 in
theorem PySem.Challenge.cw_graftform_k54_whole_alike_and_apart_holds : PySem.Challenge.rw_graftform_k54_whole_alike_and_apart.Holds := by
  w_on; o_law; k_head; (case hw => w_witness2)
  k_fill
  refine Mi.law_end (l := PySem.Challenge.rw_graftform_k54_whole_alike_and_apart) (k := 6) (x := "_law_script") (F := Mi.m_law_a349c) Mi.main_k54 rfl rfl ⟨rfl, by decide, by decide⟩ (fun w h Y => PySem.W.kIn_of Y) ?F
  case F =>
    intro w mg fa h KX G hmg
    refine' Sk54.all_mk KX G hmg ?a0 ?l0 ?e0 ?k0 ?a1 ?l1 ?e1 ?k1 ?a2 ?l2 ?e2 ?k2 ?a3 ?l3 ?e3 ?k3 ?a4 ?l4 ?e4 ?k4 ?a5 ?l5 ?e5 ?k5 ?a6 ?l6 ?e6 ?k6 ?a7 ?l7 ?e7 ?k7 ?a8 ?l8 ?e8 ?k8 ?a9 ?l9 ?e9 ?k9 ?a10 ?l10 ?e10 ?k10 ?a11 ?l11 ?e11 ?k11 ?a12 ?l12 ?e12 ?k12 ?a13 ?l13 ?e13 ?k13 ?a14 ?l14 ?e14 ?k14 ?a15 ?l15 ?e15 ?k15 ?a16 ?l16 ?e16 ?k16 ?a17 ?l17 ?e17 ?k17 ?a18 ?l18 ?e18 ?k18 ?a19 ?l19 ?e19 ?k19 ?a20 ?l20 ?e20 ?k20 ?a21 ?l21 ?e21 ?k21 ?a22 ?l22 ?e22 ?k22 ?a23 ?l23 ?e23 ?k23 ?zb_all ?zb_bool ?zb_int ?zb_isinstance ?zb_len ?zb_list ?zb_max ?zb_min ?zb_range ?zb_sorted ?zb_tuple
    (case a0 => k_is)
    (case l0 => k_is)
    (case e0 => k_is)
    (case k0 => k_is)
    (case a1 => k_is)
    (case l1 => k_is)
    (case e1 => k_is)
    (case k1 => k_is)
    (case a2 => k_is)
    (case l2 => k_is)
    (case e2 => k_is)
    (case k2 => k_is)
    (case a3 => k_is)
    (case l3 => k_is)
    (case e3 => k_is)
    (case k3 => k_is)
    (case a4 => k_is)
    (case l4 => k_is)
    (case e4 => k_is)
    (case k4 => k_is)
    (case a5 => k_is)
    (case l5 => k_is)
    (case e5 => k_is)
    (case k5 => k_is)
    (case a6 => k_is)
    (case l6 => k_is)
    (case e6 => k_is)
    (case k6 => k_is)
    (case a7 => k_is)
    (case l7 => k_is)
    (case e7 => k_is)
    (case k7 => k_is)
    (case a8 => k_is)
    (case l8 => k_is)
    (case e8 => k_is)
    (case k8 => k_is)
    (case a9 => k_is)
    (case l9 => k_is)
    (case e9 => k_is)
    (case k9 => k_is)
    (case a10 => k_is)
    (case l10 => k_is)
    (case e10 => k_is)
    (case k10 => k_is)
    (case a11 => k_is)
    (case l11 => k_is)
    (case e11 => k_is)
    (case k11 => k_is)
    (case a12 => k_is)
    (case l12 => k_is)
    (case e12 => k_is)
    (case k12 => k_is)
    (case a13 => k_is)
    (case l13 => k_is)
    (case e13 => k_is)
    (case k13 => k_is)
    (case a14 => k_is)
    (case l14 => k_is)
    (case e14 => k_is)
    (case k14 => k_is)
    (case a15 => k_is)
    (case l15 => k_is)
    (case e15 => k_is)
    (case k15 => k_is)
    (case a16 => k_is)
    (case l16 => k_is)
    (case e16 => k_is)
    (case k16 => k_is)
    (case a17 => k_is)
    (case l17 => k_is)
    (case e17 => k_is)
    (case k17 => k_is)
    (case a18 => k_is)
    (case l18 => k_is)
    (case e18 => k_is)
    (case k18 => k_is)
    (case a19 => k_is)
    (case l19 => k_is)
    (case e19 => k_is)
    (case k19 => k_is)
    (case a20 => k_is)
    (case l20 => k_is)
    (case e20 => k_is)
    (case k20 => k_is)
    (case a21 => k_is)
    (case l21 => k_is)
    (case e21 => k_is)
    (case k21 => k_is)
    (case a22 => k_is)
    (case l22 => k_is)
    (case e22 => k_is)
    (case k22 => k_is)
    (case a23 => k_is)
    (case l23 => k_is)
    (case e23 => k_is)
    (case k23 => k_is)
    (case zb_all => k_is)
    (case zb_bool => k_is)
    (case zb_int => k_is)
    (case zb_isinstance => k_is)
    (case zb_len => k_is)
    (case zb_list => k_is)
    (case zb_max => k_is)
    (case zb_min => k_is)
    (case zb_range => k_is)
    (case zb_sorted => k_is)
    (case zb_tuple => k_is)

