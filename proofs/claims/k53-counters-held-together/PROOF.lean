import PyProof.Rows.All
import Wide.All
import OpenK.AllK
import Wide.FinOn
import HandS.ForMost
import HandS.Exc
import HandS.TryOnly
import HandS.ExcOwn
import HandS.WordsExc
import HandS.Wide
import HandS.WideBits
import HandS.EndBits
import HandS.IsInst
import HandS.TupAny
import HandS.Style
import HandS.RevRange
import HandS.Deep
import HandS.Strs
import HandS.Conv
import HandS.Flow
import HandS.DeepEq
import KE.KeyNested
import HandS.ExcInit
import HandS.ExcIs
import HandS.ExcField
import KE.KExcIs
import HandS.Iter
import HandS.TupMul
import HandS.Zip
import HandS.Defaults
import HandS.CallSlots
import KE.KDictSum
import KE.SortData
import HandS.ExcValue
import HandS.Text
import HandS.SetFor
import HandS.TupSets
import KE.KDictPairs
import PyProof.Rows.TupTab
import HandS.More
import HandS.ClsMeth
import KE.KRevSl
import KE.DataMinMax
import KE.KIndexWalk
import PyProof.DictMoreH
import PyProof.Rows.RowBridgeK
import HandS.SetKeys
import KE.KDictCopyH
import PyProof.WalksMore
import PyProof.Rows.CallKwBuiltin
import HandS.StrMore
import KE.KDictDisplayH
import KE.GoesMore
import KE.KTurns
import PySem.Challenge.RW_graftform_k53_counters_held_together
set_option Elab.async false
set_option linter.all false
set_option maxRecDepth 100000
set_option maxHeartbeats 4000000
/-! Mir: each def of the program as a Lean function over plain values (tuples by value, lists, dicts, instances in a heap of their own, numbered), and the proof that the def does what the function says. -/
namespace Mi
open PySem L2

inductive D where
  | non | bl (b : Bool) | int (i : Int) | str (x : Str) | tup (l : List D) | ref (i : Nat) | xo (c f : Str) (v : D)
mutual
def D.dec : (a b : D) → Decidable (a = b)
  | .non, .non => .isTrue rfl
  | .non, .bl _ => .isFalse (fun e => nomatch e)
  | .non, .int _ => .isFalse (fun e => nomatch e)
  | .non, .str _ => .isFalse (fun e => nomatch e)
  | .non, .tup _ => .isFalse (fun e => nomatch e)
  | .non, .ref _ => .isFalse (fun e => nomatch e)
  | .bl _, .non => .isFalse (fun e => nomatch e)
  | .bl a, .bl b => if h : a = b then .isTrue (by rw [h]) else .isFalse (fun e => h (D.bl.inj e))
  | .bl _, .int _ => .isFalse (fun e => nomatch e)
  | .bl _, .str _ => .isFalse (fun e => nomatch e)
  | .bl _, .tup _ => .isFalse (fun e => nomatch e)
  | .bl _, .ref _ => .isFalse (fun e => nomatch e)
  | .int _, .non => .isFalse (fun e => nomatch e)
  | .int _, .bl _ => .isFalse (fun e => nomatch e)
  | .int a, .int b => if h : a = b then .isTrue (by rw [h]) else .isFalse (fun e => h (D.int.inj e))
  | .int _, .str _ => .isFalse (fun e => nomatch e)
  | .int _, .tup _ => .isFalse (fun e => nomatch e)
  | .int _, .ref _ => .isFalse (fun e => nomatch e)
  | .str _, .non => .isFalse (fun e => nomatch e)
  | .str _, .bl _ => .isFalse (fun e => nomatch e)
  | .str _, .int _ => .isFalse (fun e => nomatch e)
  | .str a, .str b => if h : a = b then .isTrue (by rw [h]) else .isFalse (fun e => h (D.str.inj e))
  | .str _, .tup _ => .isFalse (fun e => nomatch e)
  | .str _, .ref _ => .isFalse (fun e => nomatch e)
  | .tup _, .non => .isFalse (fun e => nomatch e)
  | .tup _, .bl _ => .isFalse (fun e => nomatch e)
  | .tup _, .int _ => .isFalse (fun e => nomatch e)
  | .tup _, .str _ => .isFalse (fun e => nomatch e)
  | .tup a, .tup b => match D.decs a b with
    | .isTrue h => .isTrue (by rw [h])
    | .isFalse h => .isFalse (fun e => h (D.tup.inj e))
  | .tup _, .ref _ => .isFalse (fun e => nomatch e)
  | .ref _, .non => .isFalse (fun e => nomatch e)
  | .ref _, .bl _ => .isFalse (fun e => nomatch e)
  | .ref _, .int _ => .isFalse (fun e => nomatch e)
  | .ref _, .str _ => .isFalse (fun e => nomatch e)
  | .ref _, .tup _ => .isFalse (fun e => nomatch e)
  | .ref a, .ref b => if h : a = b then .isTrue (by rw [h]) else .isFalse (fun e => h (D.ref.inj e))
  | .non, .xo _ _ _ => .isFalse (fun e => nomatch e)
  | .xo _ _ _, .non => .isFalse (fun e => nomatch e)
  | .bl _, .xo _ _ _ => .isFalse (fun e => nomatch e)
  | .xo _ _ _, .bl _ => .isFalse (fun e => nomatch e)
  | .int _, .xo _ _ _ => .isFalse (fun e => nomatch e)
  | .xo _ _ _, .int _ => .isFalse (fun e => nomatch e)
  | .str _, .xo _ _ _ => .isFalse (fun e => nomatch e)
  | .xo _ _ _, .str _ => .isFalse (fun e => nomatch e)
  | .tup _, .xo _ _ _ => .isFalse (fun e => nomatch e)
  | .xo _ _ _, .tup _ => .isFalse (fun e => nomatch e)
  | .ref _, .xo _ _ _ => .isFalse (fun e => nomatch e)
  | .xo _ _ _, .ref _ => .isFalse (fun e => nomatch e)
  | .xo c f v, .xo c' f' v' => match D.dec v v' with
    | .isTrue h => if k : c = c' ∧ f = f' then .isTrue (by rw [h, k.1, k.2]) else .isFalse (fun e => by cases e; exact k ⟨rfl, rfl⟩)
    | .isFalse h => .isFalse (fun e => by cases e; exact h rfl)
def D.decs : (a b : List D) → Decidable (a = b)
  | [], [] => .isTrue rfl
  | [], _ :: _ => .isFalse (fun e => nomatch e)
  | _ :: _, [] => .isFalse (fun e => nomatch e)
  | a :: r, b :: s => match D.dec a b, D.decs r s with
    | .isTrue h, .isTrue k => .isTrue (by rw [h, k])
    | .isFalse h, _ => .isFalse (fun e => h (List.cons.inj e).1)
    | _, .isFalse k => .isFalse (fun e => k (List.cons.inj e).2)
end
instance : DecidableEq D := D.dec

inductive MO where
  | lst (l : List D) | rol (l : List D) | dK (kvs : List (Key × D)) | ins (c : Str) (fs : List (Str × D)) | dN (kvs : List (NestedKey × D)) | fK (kvs : List (Key × D)) | dT (kvs : List (D × D))
deriving DecidableEq

abbrev MH := List MO
abbrev Slots := List (Option D)

inductive R (α : Type) where
  | ok (a : α) (h : MH) | exc (x : Str) (fs : List (Str × D)) (h : MH) | bad

def R.bind {α β : Type} (r : R α) (f : α → MH → R β) : R β := match r with
  | .ok a h => f a h
  | .exc x fs h => .exc x fs h
  | .bad => .bad
theorem R.bind_ok {α β : Type} (a : α) (h : MH) (f : α → MH → R β) : (R.ok a h).bind f = f a h := rfl
/-- the written part, the classes by name -/
structure G where
  K : PySem.W.Frag
  cm : Str → Option Addr
  w : World

/-! ### values and the heap -/
/-- a tuple that is known to the object: it has no dict of its own -/
def Tk (K : PySem.W.Frag) (H : Hp) (p : Addr) (xs : List V) : Prop :=
  (∃ ob : Obj, ob.dict = none ∧ H p = some (.frz ob (.tup xs))) ∨ ∃ (ob : Obj) (ws : Array Value) (n : Nat), K.lookup p = some ob ∧ ob.cls = .type "tuple" ∧ ob.dict = none ∧ ob.data = .seq ws n ∧ ws.size ≤ sizeLine ∧ Vals xs ws.toList
theorem Tk.sq {K : PySem.W.Frag} {H : Hp} {p : Addr} {xs : List V} (h : Tk K H p xs) : SqT K H p xs := by
  rcases h with ⟨ob, _, h⟩ | ⟨ob, ws, n, h1, h2, _, h3⟩
  · exact .inl (.inr ⟨ob, h⟩)
  · exact .inr ⟨ob, ws, n, h1, h2, h3⟩
/-- an exception that is kept: its class, its dict -/
def XOk (C : Addr) (d : Option Addr) (a : Addr) : HO := .ext fun h => ∃ (oe : Obj) (vs : Array Value), h.get? a = some oe ∧ Zc (.ref C) d oe ∧ oe.data = .fields vs
def isX (p : Addr) (u : HO) : Prop := (∃ C d, u = XOk C d p) ∨ ∃ fs, u = .xd fs
mutual
inductive VR (g : G) (H : Hp) (μ : List Addr) : V → D → Prop
  | non : VR g H μ .non .non
  | bl (b : Bool) : VR g H μ (.bl b) (.bl b)
  | int (i : Int) : VR g H μ (.int i) (.int i)
  | str (x : Str) : VR g H μ (.str x) (.str x)
  | ref {p : Addr} {i : Nat} : μ[i]? = some p → VR g H μ (.ref p) (.ref i)
  | tup {p : Addr} {xs : List V} {ds : List D} : Tk g.K H p xs → VRs g H μ xs ds → VR g H μ (.ref p) (.tup ds)
  | xo {p C : Addr} {d : Option Addr} {c f : Str} {v : V} {dv : D} : H p = some (XOk C d p) → g.cm c = some C → ((f = Str.ofString "" ∧ d = none) ∨ ∃ dd fv, d = some dd ∧ H dd = some (.xd fv) ∧ fv.lookup f = some v) → VR g H μ v dv → VR g H μ (.ref p) (.xo c f dv)
inductive VRs (g : G) (H : Hp) (μ : List Addr) : List V → List D → Prop
  | nil : VRs g H μ [] []
  | cons {v : V} {d : D} {vs : List V} {ds : List D} : VR g H μ v d → VRs g H μ vs ds → VRs g H μ (v :: vs) (d :: ds)
end
mutual
/-- a thing as a key -/
def nkD : D → Option NestedKey
  | .non => some .none
  | .bl b => some (.num (if b = true then 1 else 0))
  | .int i => some (.num i)
  | .str x => some (.text x)
  | .tup l => (nkDs l).map NestedKey.tup
  | .ref _ => none
  | .xo _ _ _ => none
def nkDs : List D → Option (List NestedKey)
  | [] => some []
  | d :: l => match nkD d, nkDs l with
    | some k, some ks => some (k :: ks)
    | _, _ => none
end
/-- a dict whose keys are tuples -/
def DN (w : World) (a : Addr) (xs : List (NestedKey × Addr × Value)) : HO := .ext fun h => xs.length ≤ sizeLine ∧ (a == sysModules) = false ∧ ∃ o es ep, h.get? a = some o ∧ o.ExactDict ∧ o.data = .dict es ep ∧ es.toList = xs.map (fun x => ⟨x.1.hash w, .ref x.2.1, x.2.2⟩) ∧ (xs.map (·.1)).Nodup
inductive NR (g : G) (H : Hp) (μ : List Addr) : List (NestedKey × Addr × Value) → List (NestedKey × D) → Prop
  | nil : NR g H μ [] []
  | cons {k : NestedKey} {a : Addr} {u : Value} {e d : D} {v : V} {xs : List (NestedKey × Addr × Value)} {ds : List (NestedKey × D)} : VR g H μ (.ref a) e → nkD e = some k → k.depth ≤ 8 → RelV v u → VR g H μ v d → NR g H μ xs ds → NR g H μ ((k, a, u) :: xs) ((k, d) :: ds)
/-- a dict with tuple keys whose key objects are known -/
inductive TR (g : G) (H : Hp) (μ : List Addr) : List (NestedKey × Addr × Value) → List (D × D) → Prop
  | nil : TR g H μ [] []
  | cons {k : NestedKey} {a : Addr} {u : Value} {e d : D} {v : V} {xs : List (NestedKey × Addr × Value)} {ds : List (D × D)} : VR g H μ (.ref a) e → nkD e = some k → k.depth ≤ 8 → RelV v u → VR g H μ v d → TR g H μ xs ds → TR g H μ ((k, a, u) :: xs) ((e, d) :: ds)
inductive KR {κ : Type} (g : G) (H : Hp) (μ : List Addr) : List (κ × V) → List (κ × D) → Prop
  | nil : KR g H μ [] []
  | cons {k : κ} {v : V} {d : D} {vs : List (κ × V)} {ds : List (κ × D)} : VR g H μ v d → KR g H μ vs ds → KR g H μ ((k, v) :: vs) ((k, d) :: ds)
inductive SR (g : G) (H : Hp) (μ : List Addr) : List (Option V) → Slots → Prop
  | nil : SR g H μ [] []
  | no {o : Option V} {σ : List (Option V)} {ρ : Slots} : SR g H μ σ ρ → SR g H μ (o :: σ) (none :: ρ)
  | yes {v : V} {d : D} {σ : List (Option V)} {ρ : Slots} : VR g H μ v d → SR g H μ σ ρ → SR g H μ (some v :: σ) (some d :: ρ)

/-- a list that is only read -/
def Lk (K : PySem.W.Frag) (H : Hp) (a : Addr) (xs : List V) : Prop :=
  (∃ o, H a = some (.frz o (.lst xs))) ∨ ∃ (o : Obj) (its : Array Value) (n : Nat), K.lookup a = some o ∧ o.cls = .type "list" ∧ o.dict = none ∧ o.data = .seq its n ∧ its.size ≤ sizeLine ∧ Vals xs its.toList
theorem Lk.sq {K : PySem.W.Frag} {H : Hp} {a : Addr} {xs : List V} (h : Lk K H a xs) : SqL K H a xs := by
  rcases h with ⟨o, h⟩ | h
  · exact .inl (.inr ⟨o, h⟩)
  · exact .inr h

def OR (g : G) (H : Hp) (μ : List Addr) (p : Addr) : MO → Prop
  | .lst ds => ∃ xs, H p = some (.lst xs) ∧ VRs g H μ xs ds
  | .rol ds => ∃ xs, Lk g.K H p xs ∧ VRs g H μ xs ds
  | .dK kvs => ∃ kv, H p = some (.dK kv) ∧ KR g H μ kv kvs
  | .ins c fs => ∃ C dx fv, H p = some (.ins C dx fv) ∧ g.cm c = some C ∧ KR g H μ fv fs
  | .dN kvs => ∃ xs, H p = some (DN g.w p xs) ∧ NR g H μ xs kvs
  | .fK kvs => ∃ o kv, H p = some (.frz o (.dK kv)) ∧ KR g H μ kv kvs
  | .dT kvs => ∃ xs, H p = some (DN g.w p xs) ∧ TR g H μ xs kvs
def isMut : MO → Bool
  | .rol _ => false
  | _ => true
structure HR (g : G) (H : Hp) (μ : List Addr) (h : MH) : Prop where
  len : μ.length = h.length
  ob : ∀ (i : Nat) (p : Addr) (o : MO), μ[i]? = some p → h[i]? = some o → OR g H μ p o
  nd : ∀ (i j : Nat) (p : Addr) (o u : MO), μ[i]? = some p → μ[j]? = some p → h[i]? = some o → h[j]? = some u → isMut o = true → isMut u = true → i = j

/-- what stands stands on: the tuples, the numbering -/
structure Mon (g : G) (H H' : Hp) (μ μ' : List Addr) : Prop where
  pre : μ <+: μ'
  tups : ∀ p xs, Tk g.K H p xs → Tk g.K H' p xs
  xs : ∀ p u, isX p u → H p = some u → H' p = some u
  fz : ∀ p w v, H p = some (.frz w v) → H' p = some (.frz w v)
section
variable {g : G} {H H1 H2 : Hp} {μ μ1 μ2 : List Addr}
theorem Mon.refl : Mon g H H μ μ := ⟨List.prefix_rfl, fun _ _ h => h, fun _ _ _ h => h, fun _ _ _ h => h⟩
theorem Mon.trans (a : Mon g H H1 μ μ1) (b : Mon g H1 H2 μ1 μ2) : Mon g H H2 μ μ2 := ⟨a.pre.trans b.pre, fun p xs h => b.tups p xs (a.tups p xs h), fun p u x h => b.xs p u x (a.xs p u x h), fun p w v h => b.fz p w v (a.fz p w v h)⟩
theorem Mon.ix (m : Mon g H H1 μ μ1) {i : Nat} {p : Addr} (h : μ[i]? = some p) : μ1[i]? = some p := by
  obtain ⟨t, rfl⟩ := m.pre
  rw [List.getElem?_append_left (List.getElem?_eq_some_iff.mp h).1]
  exact h
mutual
theorem VR.mono (m : Mon g H H1 μ μ1) : ∀ {v : V} {d : D}, VR g H μ v d → VR g H1 μ1 v d
  | _, _, .non => .non
  | _, _, .bl b => .bl b
  | _, _, .int i => .int i
  | _, _, .str x => .str x
  | _, _, .ref h => .ref (m.ix h)
  | _, _, .tup h hs => .tup (m.tups _ _ h) (VRs.mono m hs)
  | _, _, .xo h c f v => .xo (m.xs _ _ (.inl ⟨_, _, rfl⟩) h) c (by
      rcases f with f | ⟨dd, fv, e1, e2, e3⟩
      · exact .inl f
      · exact .inr ⟨dd, fv, e1, m.xs _ _ (.inr ⟨_, rfl⟩) e2, e3⟩) (VR.mono m v)
theorem VRs.mono (m : Mon g H H1 μ μ1) : ∀ {vs : List V} {ds : List D}, VRs g H μ vs ds → VRs g H1 μ1 vs ds
  | _, _, .nil => .nil
  | _, _, .cons a b => .cons (VR.mono m a) (VRs.mono m b)
end
theorem KR.mono {κ : Type} (m : Mon g H H1 μ μ1) : ∀ {vs : List (κ × V)} {ds : List (κ × D)}, KR g H μ vs ds → KR g H1 μ1 vs ds
  | _, _, .nil => .nil
  | _, _, .cons a b => .cons (a.mono m) (KR.mono m b)
theorem NR.mono (m : Mon g H H1 μ μ1) : ∀ {xs : List (NestedKey × Addr × Value)} {ds : List (NestedKey × D)}, NR g H μ xs ds → NR g H1 μ1 xs ds
  | _, _, .nil => .nil
  | _, _, .cons a e l r v b => .cons (a.mono m) e l r (v.mono m) (NR.mono m b)
theorem TR.mono (m : Mon g H H1 μ μ1) : ∀ {xs : List (NestedKey × Addr × Value)} {ds : List (D × D)}, TR g H μ xs ds → TR g H1 μ1 xs ds
  | _, _, .nil => .nil
  | _, _, .cons a e l r v b => .cons (a.mono m) e l r (v.mono m) (TR.mono m b)
theorem SR.mono (m : Mon g H H1 μ μ1) : ∀ {σ : List (Option V)} {ρ : Slots}, SR g H μ σ ρ → SR g H1 μ1 σ ρ
  | _, _, .nil => .nil
  | _, _, .no b => .no (SR.mono m b)
  | _, _, .yes a b => .yes (a.mono m) (SR.mono m b)
theorem VRs.length : ∀ {vs : List V} {ds : List D}, VRs g H μ vs ds → vs.length = ds.length
  | _, _, .nil => rfl
  | _, _, .cons _ b => by rw [List.length_cons, List.length_cons, VRs.length b]
theorem VRs.get : ∀ {vs : List V} {ds : List D} {i : Nat} {d : D}, VRs g H μ vs ds → ds[i]? = some d → ∃ v, vs[i]? = some v ∧ VR g H μ v d
  | _, _, _, _, .nil, e => by simp at e
  | _, _, 0, _, .cons a _, e => by
    simp only [List.getElem?_cons_zero, Option.some.injEq] at e
    subst e
    exact ⟨_, rfl, a⟩
  | _, _, i + 1, _, .cons _ b, e => by
    obtain ⟨v, h1, h2⟩ := VRs.get (i := i) b (by simpa using e)
    exact ⟨v, by simpa using h1, h2⟩
theorem VRs.append : ∀ {vs ws : List V} {ds es : List D}, VRs g H μ vs ds → VRs g H μ ws es → VRs g H μ (vs ++ ws) (ds ++ es)
  | _, _, _, _, .nil, h => h
  | _, _, _, _, .cons a b, h => .cons a (VRs.append b h)
theorem VRs.take (n : Nat) : ∀ {vs : List V} {ds : List D}, VRs g H μ vs ds → VRs g H μ (vs.take n) (ds.take n) := by
  induction n with
  | zero => intro vs ds _; simp only [List.take_zero]; exact .nil
  | succ n ih =>
    intro vs ds h
    cases h with
    | nil => simp only [List.take_nil]; exact .nil
    | cons a b => simp only [List.take_succ_cons]; exact .cons a (ih b)
theorem VRs.drop (n : Nat) : ∀ {vs : List V} {ds : List D}, VRs g H μ vs ds → VRs g H μ (vs.drop n) (ds.drop n) := by
  induction n with
  | zero => intro vs ds h; exact h
  | succ n ih =>
    intro vs ds h
    cases h with
    | nil => simp only [List.drop_nil]; exact .nil
    | cons a b => simp only [List.drop_succ_cons]; exact ih b
theorem VRs.set (i : Nat) {v : V} {d : D} (r : VR g H μ v d) : ∀ {vs : List V} {ds : List D}, VRs g H μ vs ds → VRs g H μ (vs.set i v) (ds.set i d) := by
  induction i with
  | zero =>
    intro vs ds h
    cases h with
    | nil => exact .nil
    | cons a b => exact .cons r b
  | succ n ih =>
    intro vs ds h
    cases h with
    | nil => exact .nil
    | cons a b => exact .cons a (ih b)
theorem VRs.reverse : ∀ {vs : List V} {ds : List D}, VRs g H μ vs ds → VRs g H μ vs.reverse ds.reverse
  | _, _, .nil => .nil
  | _, _, .cons a b => by
    rw [List.reverse_cons, List.reverse_cons]
    exact (VRs.reverse b).append (.cons a .nil)
theorem VRs.dropLast : ∀ {vs : List V} {ds : List D}, VRs g H μ vs ds → VRs g H μ vs.dropLast ds.dropLast
  | _, _, .nil => .nil
  | _, _, .cons a .nil => .nil
  | _, _, .cons a (.cons b c) => .cons a (VRs.dropLast (.cons b c))
theorem VRs.one {v : V} {d : D} (a : VR g H μ v d) : VRs g H μ [v] [d] := .cons a .nil
theorem SR.get : ∀ {σ : List (Option V)} {ρ : Slots} {i : Nat} {d : D}, SR g H μ σ ρ → ρ[i]? = some (some d) → ∃ v, σ[i]? = some (some v) ∧ VR g H μ v d
  | _, _, _, _, .nil, e => by simp at e
  | _, _, 0, _, .no _, e => by simp at e
  | _, _, 0, _, .yes a _, e => by
    simp only [List.getElem?_cons_zero, Option.some.injEq] at e
    subst e
    exact ⟨_, rfl, a⟩
  | _, _, i + 1, _, .no b, e => by
    obtain ⟨v, h1, h2⟩ := SR.get (i := i) b (by simpa using e)
    exact ⟨v, by simpa using h1, h2⟩
  | _, _, i + 1, _, .yes _ b, e => by
    obtain ⟨v, h1, h2⟩ := SR.get (i := i) b (by simpa using e)
    exact ⟨v, by simpa using h1, h2⟩
theorem SR.set (i : Nat) {v : V} {d : D} (r : VR g H μ v d) : ∀ {σ : List (Option V)} {ρ : Slots}, SR g H μ σ ρ → SR g H μ (σ.set i (some v)) (ρ.set i (some d)) := by
  induction i with
  | zero =>
    intro σ ρ h
    cases h with
    | nil => exact .nil
    | no b => exact .yes r b
    | yes a b => exact .yes r b
  | succ n ih =>
    intro σ ρ h
    cases h with
    | nil => exact .nil
    | no b => exact .no (ih b)
    | yes a b => exact .yes a (ih b)
theorem SR.unset (i : Nat) (o : Option V) : ∀ {σ : List (Option V)} {ρ : Slots}, SR g H μ σ ρ → SR g H μ (σ.set i o) (ρ.set i none) := by
  induction i with
  | zero =>
    intro σ ρ h
    cases h with
    | nil => exact .nil
    | no b => exact .no b
    | yes a b => exact .no b
  | succ n ih =>
    intro σ ρ h
    cases h with
    | nil => exact .nil
    | no b => exact .no (ih b)
    | yes a b => exact .yes a (ih b)
theorem SR.start : ∀ {vs : List V} {ds : List D} (n : Nat), VRs g H μ vs ds → SR g H μ (vs.map some ++ List.replicate n none) (ds.map some ++ List.replicate n none)
  | _, _, n, .nil => by
    show SR g H μ (List.replicate n none) (List.replicate n none)
    induction n with
    | zero => exact .nil
    | succ n ih => rw [List.replicate_succ]; exact .no ih
  | _, _, n, .cons a b => .yes a (SR.start n b)

/-! ### the heap changes -/
/-- a place that may be written: neither a tuple's nor a locked thing's -/
def Saf (H : Hp) (p : Addr) : Prop := ∀ u, H p = some u → ((∀ xs, u ≠ .tup xs) ∧ ¬ isX p u) ∧ ∀ o v, u ≠ .frz o v
theorem Saf.fresh {p : Addr} (h : H p = none) : Saf H p := fun u e => by rw [h] at e; cases e
theorem Saf.lst {p : Addr} {xs : List V} (h : H p = some (.lst xs)) : Saf H p := fun u e => by
  rw [h] at e
  cases e
  exact ⟨⟨fun _ z => (nomatch z), fun z => by rcases z with ⟨_, _, z⟩ | ⟨_, z⟩ <;> exact nomatch z⟩, fun _ _ z => (nomatch z)⟩
theorem Saf.dK {p : Addr} {xs : List (Key × V)} (h : H p = some (.dK xs)) : Saf H p := fun u e => by
  rw [h] at e
  cases e
  exact ⟨⟨fun _ z => (nomatch z), fun z => by rcases z with ⟨_, _, z⟩ | ⟨_, z⟩ <;> exact nomatch z⟩, fun _ _ z => (nomatch z)⟩
theorem Saf.ins {p C dx : Addr} {xs : List (Str × V)} (h : H p = some (.ins C dx xs)) : Saf H p := fun u e => by
  rw [h] at e
  cases e
  exact ⟨⟨fun _ z => (nomatch z), fun z => by rcases z with ⟨_, _, z⟩ | ⟨_, z⟩ <;> exact nomatch z⟩, fun _ _ z => (nomatch z)⟩
theorem dn_ne {w : World} {p C : Addr} {d : Option Addr} {xs : List (NestedKey × Addr × Value)} : DN w p xs ≠ XOk C d p := fun z => by
  unfold DN XOk at z
  injection z with z
  have hh : ∃ h : Heap, ∃ (oe : Obj) (vs : Array Value), h.get? p = some oe ∧ Zc (.ref C) d oe ∧ oe.data = .fields vs := by
    refine ⟨{ objs := Array.replicate (p + 1) { cls := .ref C, dict := d, data := .fields #[] } }, { cls := .ref C, dict := d, data := .fields #[] }, #[], ?_, ?_, rfl⟩
    · simp [Heap.get?]
    · exact ⟨rfl, rfl⟩
  obtain ⟨h, oe, vs, h1, h2, h3⟩ := hh
  have z2 := congrFun z h
  obtain ⟨_, _, o, es, ep, e1, _, e3, _⟩ := z2.mpr ⟨oe, vs, h1, h2, h3⟩
  rw [h1] at e1
  cases e1
  rw [h3] at e3
  cases e3
theorem Saf.dN {p : Addr} {w : World} {xs : List (NestedKey × Addr × Value)} (h : H p = some (DN w p xs)) : Saf H p := fun u e => by
  rw [h] at e
  cases e
  exact ⟨⟨fun _ z => (nomatch z), fun z => by
    rcases z with ⟨_, _, z⟩ | ⟨_, z⟩
    · exact dn_ne z
    · exact nomatch z⟩, fun _ _ z => (nomatch z)⟩
theorem Saf.mon {p : Addr} {o : HO} (s : Saf H p) : Mon g H (upd H p o) μ μ := ⟨List.prefix_rfl, fun q xs h => by
  rcases h with ⟨u, hu, h⟩ | h
  · refine .inl ⟨u, hu, ?_⟩
    rw [upd_ne]
    · exact h
    · rintro rfl; exact (s _ h).2 u _ rfl
  · exact .inr h, fun q u x h => by
    rw [upd_ne]
    · exact h
    · rintro rfl; exact (s _ h).1.2 x, fun q w v h => by
    rw [upd_ne]
    · exact h
    · rintro rfl; exact (s _ h).2 w v rfl⟩
theorem OR.mono_at {p : Addr} {o : MO} (m : Mon g H H1 μ μ1) (k : ∀ u, H p = some u → H1 p = some u) (h : OR g H μ p o) : OR g H1 μ1 p o := by
  cases o with
  | lst ds => obtain ⟨xs, a, b⟩ := h; exact ⟨xs, k _ a, b.mono m⟩
  | rol ds =>
    obtain ⟨xs, a, b⟩ := h
    refine ⟨xs, ?_, b.mono m⟩
    rcases a with ⟨u, a⟩ | a
    · exact .inl ⟨u, k _ a⟩
    · exact .inr a
  | dK kvs => obtain ⟨xs, a, b⟩ := h; exact ⟨xs, k _ a, b.mono m⟩
  | ins c fs => obtain ⟨C, dx, xs, a, c', b⟩ := h; exact ⟨C, dx, xs, k _ a, c', b.mono m⟩
  | dN kvs => obtain ⟨xs, a, b⟩ := h; exact ⟨xs, k _ a, b.mono m⟩
  | fK kvs => obtain ⟨u, xs, a, b⟩ := h; exact ⟨u, xs, k _ a, b.mono m⟩
  | dT kvs => obtain ⟨xs, a, b⟩ := h; exact ⟨xs, k _ a, b.mono m⟩
theorem OR.mut {p : Addr} {o : MO} (h : OR g H μ p o) (hm : isMut o = true) : ∃ u, H p = some u := by
  cases o with
  | lst ds => obtain ⟨xs, a, b⟩ := h; exact ⟨_, a⟩
  | rol ds => cases hm
  | dK kvs => obtain ⟨xs, a, b⟩ := h; exact ⟨_, a⟩
  | ins c fs => obtain ⟨C, dx, xs, a, c', b⟩ := h; exact ⟨_, a⟩
  | dN kvs => obtain ⟨xs, a, b⟩ := h; exact ⟨_, a⟩
  | fK kvs => obtain ⟨u, xs, a, b⟩ := h; exact ⟨_, a⟩
  | dT kvs => obtain ⟨xs, a, b⟩ := h; exact ⟨_, a⟩
/-- a new thing is laid that is no cell of h -/
theorem HR.laid {h : MH} {p : Addr} {o : HO} (r : HR g H μ h) (hp : H p = none) : HR g (upd H p o) μ h :=
  ⟨r.len, fun i q u hi hu => (r.ob i q u hi hu).mono_at (Saf.fresh hp).mon fun w e => by rw [upd_ne (ne_of_none e hp)]; exact e, r.nd⟩
/-- a new cell -/
theorem HR.push {h : MH} {p : Addr} {o : HO} {u : MO} (r : HR g H μ h) (hp : H p = none) (hu : OR g (upd H p o) (μ ++ [p]) p u) : HR g (upd H p o) (μ ++ [p]) (h ++ [u]) := by
  have m : Mon g H (upd H p o) μ (μ ++ [p]) := ⟨List.prefix_append _ _, (Saf.fresh hp : Saf H p).mon (g := g) (μ := μ) (o := o) |>.tups, (Saf.fresh hp : Saf H p).mon (g := g) (μ := μ) (o := o) |>.xs, (Saf.fresh hp : Saf H p).mon (g := g) (μ := μ) (o := o) |>.fz⟩
  have key : ∀ (i : Nat) (q : Addr), (μ ++ [p])[i]? = some q → (i < μ.length ∧ μ[i]? = some q) ∨ (i = μ.length ∧ q = p) := fun i q e => by
    by_cases hi : i < μ.length
    · rw [List.getElem?_append_left hi] at e; exact .inl ⟨hi, e⟩
    · rw [List.getElem?_append_right (by omega)] at e
      have : i - μ.length = 0 := by
        have := (List.getElem?_eq_some_iff.mp e).1
        simp at this; omega
      rw [this] at e
      simp at e
      exact .inr ⟨by omega, e.symm⟩
  have keyh : ∀ (i : Nat) (w : MO), (h ++ [u])[i]? = some w → (i < h.length ∧ h[i]? = some w) ∨ (i = h.length ∧ w = u) := fun i w e => by
    by_cases hi : i < h.length
    · rw [List.getElem?_append_left hi] at e; exact .inl ⟨hi, e⟩
    · rw [List.getElem?_append_right (by omega)] at e
      have : i - h.length = 0 := by
        have := (List.getElem?_eq_some_iff.mp e).1
        simp at this; omega
      rw [this] at e
      simp at e
      exact .inr ⟨by omega, e.symm⟩
  have l := r.len
  refine ⟨by simp [l], fun i q w hi hw => ?_, fun i j q w v hi hj hw hv m1 m2 => ?_⟩
  · rcases key i q hi with ⟨a, b⟩ | ⟨a, b⟩
    · rcases keyh i w hw with ⟨c, d⟩ | ⟨c, d⟩
      · exact (r.ob i q w b d).mono_at m fun x e => by rw [upd_ne (ne_of_none e hp)]; exact e
      · omega
    · rcases keyh i w hw with ⟨c, d⟩ | ⟨c, d⟩
      · omega
      · subst b d; exact hu
  · rcases key i q hi with ⟨a, b⟩ | ⟨a, b⟩ <;> rcases key j q hj with ⟨a', b'⟩ | ⟨a', b'⟩
    · rcases keyh i w hw with ⟨c, d⟩ | ⟨c, d⟩
      · rcases keyh j v hv with ⟨c', d'⟩ | ⟨c', d'⟩
        · exact r.nd i j q w v b b' d d' m1 m2
        · omega
      · omega
    · rcases keyh i w hw with ⟨c, d⟩ | ⟨c, d⟩
      · obtain ⟨x, e⟩ := (r.ob i q w b d).mut m1
        subst b'
        rw [hp] at e; cases e
      · omega
    · rcases keyh j v hv with ⟨c, d⟩ | ⟨c, d⟩
      · obtain ⟨x, e⟩ := (r.ob j q v b' d).mut m2
        subst b
        rw [hp] at e; cases e
      · omega
    · omega
/-- a cell is written -/
theorem HR.write {h : MH} {i : Nat} {p : Addr} {o : HO} {u w : MO} (r : HR g H μ h) (hi : μ[i]? = some p) (hw : h[i]? = some w) (mw : isMut w = true) (s : Saf H p) (mu : isMut u = true) (hu : OR g (upd H p o) μ p u) : HR g (upd H p o) μ (h.set i u) := by
  have m : Mon g H (upd H p o) μ μ := s.mon
  have hlt : i < h.length := (List.getElem?_eq_some_iff.mp hw).1
  refine ⟨by rw [List.length_set]; exact r.len, fun j q v hj hv => ?_, fun j k q v x hj hk hv hx m1 m2 => ?_⟩
  · by_cases e : i = j
    · subst e
      rw [List.getElem?_set_self hlt] at hv
      rw [hi] at hj
      cases hj; cases hv
      exact hu
    · rw [List.getElem?_set_ne e] at hv
      have old := r.ob j q v hj hv
      cases mv : isMut v with
      | true =>
        refine old.mono_at m fun x ex => ?_
        rw [upd_ne]
        · exact ex
        · rintro rfl; exact e (r.nd i j q w v hi hj hw hv mw mv)
      | false =>
        cases v with
        | rol ds =>
          obtain ⟨xs, a, b⟩ := old
          refine ⟨xs, ?_, b.mono m⟩
          rcases a with ⟨u', a⟩ | a
          · refine .inl ⟨u', ?_⟩
            rw [upd_ne]
            · exact a
            · rintro rfl; exact (s _ a).2 _ _ rfl
          · exact .inr a
        | lst ds => cases mv
        | dK kvs => cases mv
        | ins c fs => cases mv
        | dN kvs => cases mv
        | fK kvs => cases mv
        | dT kvs => cases mv
  · have key : ∀ (j : Nat) (v : MO), (h.set i u)[j]? = some v → isMut v = true → ∃ v', h[j]? = some v' ∧ isMut v' = true := fun j v hv mv => by
      by_cases e : i = j
      · subst e; exact ⟨w, hw, mw⟩
      · rw [List.getElem?_set_ne e] at hv; exact ⟨v, hv, mv⟩
    obtain ⟨v', hv', mv'⟩ := key j v hv m1
    obtain ⟨x', hx', mx'⟩ := key k x hx m2
    exact r.nd j k q v' x' hj hk hv' hx' mv' mx'
end

/-! ### rules that lay tuples, the new one known to the object -/
section
variable {X : Cx} {es : List Expr} {t : TA} {pos : Pos}
def tTupF (t : TA) : TE := fun σ H Q => t σ H fun xs H1 => xs.length ≤ sizeLine ∧ ∀ (p : Addr) (ob : Obj), H1 p = none → ob.dict = none → Q (.ref p) (upd H1 p (.frz ob (.tup xs)))
theorem pe_tupF {x1} (h : PA X es t) : PE X (.Tuple es x1 pos) (tTupF t) := by
  refine ⟨fun pins s σ H Q I hq => ?_⟩
  refine wpAny_Tuple_spliced (thn (h.run pos pins s σ H _ I hq) fun us s1 ⟨xs, H1, I1, rv, zl, q⟩ => ⟨by rw [← rv.length]; exact zl, ?_⟩)
  have new : H1 s1.heap.objs.size = none := I1.hok.fresh (Nat.le_refl _)
  refine ⟨.ref s1.heap.objs.size, upd H1 s1.heap.objs.size (.frz { cls := .type "tuple", data := .seq us.toArray } (.tup xs)), I1.laid (t' := s1.toks) (fun b u e => Heap.get?_push_of_some _ e) (Nat.le_refl _) ?_, rfl, q _ _ new rfl⟩
  exact ⟨Heap.get?_push_size _ rfl, zl, us, rv, PyProof.Rows.IsTup.new _ _⟩
def rTupF (K : PySem.W.Frag) : List V → Hp → VK → Prop := fun xs H Q => ∃ p ys, xs = [.ref p] ∧ ((SqL K H p ys ∧ ∀ (l : Addr) (ob : Obj), H l = none → ob.dict = none → Q (.ref l) (upd H l (.frz ob (.tup ys)))) ∨ (SqT K H p ys ∧ Q (.ref p) H))
theorem call_tupF : CallR X (.type "tuple") (rTupF X.K) := by
  intro pins s σ H xs us Q I rr hh
  obtain ⟨p, ys, rfl, hh⟩ := hh
  rcases hh with ⟨hq, q⟩ | ⟨hq, q⟩
  · obtain ⟨u, rfl, rx⟩ := vals1 rr
    cases rx
    obtain ⟨its, rv, pl, zl⟩ := I.list hq
    have hlen := rv.length
    refine PySem.call_tuple_list pl.isList (fun h' kp => ?_) (by simp only [List.size_toArray]; omega)
    have I1 : Inv X pins σ H { s with heap := h' } := I.kept (t' := s.toks) kp
    refine ⟨.ref h'.objs.size, upd H h'.objs.size (.frz { cls := .type "tuple", data := .seq its.toArray } (.tup ys)), ?_, rfl, q _ _ (I1.hok.fresh (Nat.le_refl _)) rfl⟩
    exact I1.laid (t' := s.toks) (fun b o e => Heap.get?_push_of_some _ e) (Nat.le_refl _) ⟨Heap.get?_push_size _ rfl, zl, its, rv, PyProof.Rows.IsTup.new _ _⟩
  · exact call_tuple_of pins s σ H _ us Q I rr ⟨p, ys, rfl, .inr ⟨hq, q⟩⟩
def rCatF (K : PySem.W.Frag) : R2 := fun x y H Q => ∃ a b xs ys, x = .ref a ∧ y = .ref b ∧ SqT K H a xs ∧ SqT K H b ys ∧ xs.length + ys.length ≤ sizeLine ∧
  (xs = [] → Q (.ref b) H) ∧ (xs ≠ [] → ys = [] → Q (.ref a) H) ∧ (xs ≠ [] → ys ≠ [] → ∀ (p : Addr) (ob : Obj), H p = none → ob.dict = none → Q (.ref p) (upd H p (.frz ob (.tup (xs ++ ys)))))
theorem op_catF : OpR X (binaryOp .Add) (rCatF X.K) := by
  intro pins s σ H x y v u Q I rx ry hh
  obtain ⟨a, b, xs, ys, rfl, rfl, ha, hb, zl, q0, q1, q2⟩ := hh
  cases rx
  cases ry
  obtain ⟨ws1, r1, p1, _⟩ := I.tuple ha
  obtain ⟨ws2, r2, p2, _⟩ := I.tuple hb
  by_cases hx : xs = []
  · subst hx
    cases r1
    exact cat_tup0 p1 p2 ⟨.ref b, H, I, rfl, q0 rfl⟩
  · refine HT.cat_tup p1 p2 (fun z => hx (r1.nil_iff.mp z)) (fun z => ⟨.ref a, H, I, rfl, q1 hx (r2.nil_iff.mp z)⟩) (fun z => ?_) (by rw [← r1.length, ← r2.length]; exact zl)
    refine ⟨.ref s.heap.objs.size, upd H s.heap.objs.size (.frz { cls := .type "tuple", data := .seq (ws1 ++ ws2).toArray } (.tup (xs ++ ys))), ?_, rfl, q2 hx (fun w => z (r2.nil_iff.mpr w)) _ _ (I.hok.fresh (Nat.le_refl _)) rfl⟩
    exact I.laid (t' := s.toks) (fun b ob e => Heap.get?_push_of_some _ e) (Nat.le_refl _) ⟨Heap.get?_push_size _ rfl, by rw [List.length_append]; exact zl, _, r1.append r2, PyProof.Rows.IsTup.new _ _⟩
def rSlF (K : PySem.W.Frag) : V → Option Int → Option Int → Hp → VK → Prop := fun x lo hi H Q => ∃ a xs, x = .ref a ∧ SqT K H a xs ∧
  (HT.sIx xs.length 0 lo = 0 ∧ HT.sIx xs.length xs.length hi = xs.length → Q (.ref a) H) ∧ (¬ (HT.sIx xs.length 0 lo = 0 ∧ HT.sIx xs.length xs.length hi = xs.length) → ∀ (p : Addr) (ob : Obj), H p = none → ob.dict = none → Q (.ref p) (upd H p (.frz ob (.tup (cutV xs lo hi)))))
theorem sl_tupF : SlR X (rSlF X.K) := by
  intro pins s σ H x v vl vu lo hi sl Q I rx hs pl pu hh
  obtain ⟨a, xs, rfl, hx, q1, q2⟩ := hh
  by_cases hw : HT.sIx xs.length 0 lo = 0 ∧ HT.sIx xs.length xs.length hi = xs.length
  · exact sl_tupA pins s σ H _ v vl vu lo hi sl Q I rx hs pl pu ⟨a, xs, rfl, hx, q1, fun z => absurd hw z⟩
  · cases rx
    obtain ⟨ws, rv, ht, zl⟩ := I.tuple hx
    have el : ws.toArray.size = xs.length := by rw [List.size_toArray]; exact rv.length.symm
    refine ⟨"tuple", _, PyProof.Rows.slot_tuple_getitem.lookup, ht.typeIs, ?_⟩
    refine HT.getItem_tuple_cut ht hs pl pu (by rw [el]; exact hw) ?_ (by rw [el]; exact zl)
    rw [el]
    refine ⟨.ref s.heap.objs.size, upd H s.heap.objs.size (.frz { cls := .type "tuple", data := .seq ((ws.drop (HT.sIx xs.length 0 lo)).take (HT.sIx xs.length xs.length hi - HT.sIx xs.length 0 lo)).toArray } (.tup (cutV xs lo hi))), ?_, rfl, q2 hw _ _ (I.hok.fresh (Nat.le_refl _)) rfl⟩
    exact I.laid (t' := s.toks) (fun b ob e => Heap.get?_push_of_some _ e) (Nat.le_refl _) ⟨Heap.get?_push_size _ rfl, Nat.le_trans (cutV_length xs lo hi) zl, _, (rv.drop _).take _, PyProof.Rows.IsTup.new _ _⟩
end
end Mi
namespace Mi
open PySem L2

/-! ### what is wanted behind -/
/-- an exception of the class named x with these fields -/
def XR (g : G) (H : Hp) (μ : List Addr) (cls : Value) (d : Option Addr) (x : Str) (fs : List (Str × D)) : Prop :=
  ∃ C, cls = .ref C ∧ g.cm x = some C ∧ ((fs = [] ∧ d = none) ∨ ∃ dd fv, fs ≠ [] ∧ d = some dd ∧ H dd = some (.xd fv) ∧ KR g H μ fv fs)
def Bk {α β : Type} (rel : Hp → List Addr → β → α → Prop) (g : G) (H : Hp) (μ : List Addr) (r : R α) (Q : β → Hp → Prop) (W : XK) : Prop := match r with
  | .ok a h' => ∀ b H' μ', Mon g H H' μ μ' → HR g H' μ' h' → rel H' μ' b a → Q b H'
  | .exc x fs h' => ∀ cls d H' μ', Mon g H H' μ μ' → HR g H' μ' h' → XR g H' μ' cls d x fs → W cls d H'
  | .bad => False
abbrev eqR : Hp → List Addr → Bool → Bool → Prop := fun _ _ b a => b = a
abbrev opR : Hp → List Addr → Option Int → Option Int → Prop := fun _ _ b a => b = a
section
variable {g : G} {H H1 : Hp} {μ μ1 : List Addr} {α α' β β' : Type} {rel : Hp → List Addr → β → α → Prop} {rel' : Hp → List Addr → β' → α' → Prop}
theorem Bk.mono {r : R α} {Q : β → Hp → Prop} {W : XK} (m : Mon g H H1 μ μ1) (h : Bk rel g H μ r Q W) : Bk rel g H1 μ1 r Q W := by
  cases r with
  | ok a h' => exact fun b H' μ' m' => h b H' μ' (m.trans m')
  | exc x fs h' => exact fun cls d H' μ' m' => h cls d H' μ' (m.trans m')
  | bad => exact h
theorem Bk.bind {r : R α} {f : α → MH → R α'} {Q : β → Hp → Prop} {Q' : β' → Hp → Prop} {W : XK} (hb : Bk rel' g H μ (r.bind f) Q' W)
    (k : ∀ a h1 b H1 μ1, r = .ok a h1 → Mon g H H1 μ μ1 → HR g H1 μ1 h1 → rel H1 μ1 b a → Bk rel' g H1 μ1 (f a h1) Q' W → Q b H1) : Bk rel g H μ r Q W := by
  cases r with
  | ok a h' => exact fun b H' μ' m hr hv => k a h' b H' μ' rfl m hr hv (Bk.mono m hb)
  | exc x fs h' => exact hb
  | bad => exact hb
end

abbrev ME := Slots → MH → R D
abbrev MT := Slots → MH → R Bool
abbrev MA := Slots → MH → R (List D)
abbrev MP := Slots → MH → R (Option Int)
def tX {α β : Type} (rel : G → Hp → List Addr → β → α → Prop) (g : G) (W : WX) (m : Slots → MH → R α) : St → Hp → (β → Hp → Prop) → Prop := fun σ H Q =>
  ∃ ρ h μ, SR g H μ σ ρ ∧ HR g H μ h ∧ Bk (rel g) g H μ (m ρ h) Q (fun c d H' => W c d σ H')
abbrev tE (g : G) (W : WX) (m : ME) : TE := tX VR g W m
abbrev tT (g : G) (W : WX) (m : MT) : TT := tX (fun _ => eqR) g W m
abbrev tA (g : G) (W : WX) (m : MA) : TA := tX VRs g W m
abbrev tP (g : G) (W : WX) (m : MP) : TO := tX (fun _ => opR) g W m

inductive Out where
  | nx (ρ : Slots) (h : MH) | rt (d : D) (h : MH) | bk (ρ : Slots) (h : MH) | ct (ρ : Slots) (h : MH) | exc (x : Str) (fs : List (Str × D)) (ρ : Slots) (h : MH) | bad
abbrev MS := Slots → MH → Out
def BkS (g : G) (H : Hp) (μ : List Addr) (o : Out) (E : Ends) (W : WX) : Prop := match o with
  | .nx ρ h => ∀ σ' H' μ', Mon g H H' μ μ' → SR g H' μ' σ' ρ → HR g H' μ' h → E.nx σ' H'
  | .rt d h => ∀ v H' μ', Mon g H H' μ μ' → HR g H' μ' h → VR g H' μ' v d → E.rt v H'
  | .bk ρ h => ∀ σ' H' μ', Mon g H H' μ μ' → SR g H' μ' σ' ρ → HR g H' μ' h → E.bk σ' H'
  | .ct ρ h => ∀ σ' H' μ', Mon g H H' μ μ' → SR g H' μ' σ' ρ → HR g H' μ' h → E.ct σ' H'
  | .exc x fs ρ h => ∀ cls d σ' H' μ', Mon g H H' μ μ' → SR g H' μ' σ' ρ → HR g H' μ' h → XR g H' μ' cls d x fs → W cls d σ' H'
  | .bad => False
theorem BkS.mono {g : G} {H H1 : Hp} {μ μ1 : List Addr} {o : Out} {E : Ends} {W : WX} (m : Mon g H H1 μ μ1) (h : BkS g H μ o E W) : BkS g H1 μ1 o E W := by
  cases o with
  | nx ρ h' => exact fun σ' H' μ' m' => h σ' H' μ' (m.trans m')
  | rt d h' => exact fun v H' μ' m' => h v H' μ' (m.trans m')
  | bk ρ h' => exact fun σ' H' μ' m' => h σ' H' μ' (m.trans m')
  | ct ρ h' => exact fun σ' H' μ' m' => h σ' H' μ' (m.trans m')
  | exc x fs ρ h' => exact fun cls d σ' H' μ' m' => h cls d σ' H' μ' (m.trans m')
  | bad => exact h
def tS (g : G) (W : WX) (m : MS) : TS := fun E σ H => ∃ ρ h μ, SR g H μ σ ρ ∧ HR g H μ h ∧ BkS g H μ (m ρ h) E W

/-- an expression's end within a statement -/
def R.out {α : Type} (r : R α) (ρ : Slots) (k : α → MH → Out) : Out := match r with
  | .ok a h => k a h
  | .exc x fs h => .exc x fs ρ h
  | .bad => .bad
section
variable {g : G} {W : WX} {α β α' β' : Type} {rel : G → Hp → List Addr → β → α → Prop} {rel' : G → Hp → List Addr → β' → α' → Prop} {σ : St} {H : Hp} {μ : List Addr} {ρ : Slots} {h : MH}
/-- one part is read; what follows it -/
theorem step {ma : Slots → MH → R α} {f : α → MH → R α'} {Q : β → Hp → Prop} {Q' : β' → Hp → Prop} (sr : SR g H μ σ ρ) (hr : HR g H μ h) (hb : Bk (rel' g) g H μ ((ma ρ h).bind f) Q' (fun c d H' => W c d σ H'))
    (k : ∀ b a h1 H1 μ1, Mon g H H1 μ μ1 → SR g H1 μ1 σ ρ → HR g H1 μ1 h1 → rel g H1 μ1 b a → Bk (rel' g) g H1 μ1 (f a h1) Q' (fun c d H' => W c d σ H') → Q b H1) : tX rel g W ma σ H Q :=
  ⟨ρ, h, μ, sr, hr, Bk.bind hb fun a h1 b H1 μ1 _ m hr1 hv bk => k b a h1 H1 μ1 m (sr.mono m) hr1 hv bk⟩
theorem stepS {ma : Slots → MH → R α} {f : α → MH → Out} {Q : β → Hp → Prop} {E : Ends} (sr : SR g H μ σ ρ) (hr : HR g H μ h) (hb : BkS g H μ ((ma ρ h).out ρ f) E W)
    (k : ∀ b a h1 H1 μ1, Mon g H H1 μ μ1 → SR g H1 μ1 σ ρ → HR g H1 μ1 h1 → rel g H1 μ1 b a → BkS g H1 μ1 (f a h1) E W → Q b H1) : tX rel g W ma σ H Q := by
  refine ⟨ρ, h, μ, sr, hr, ?_⟩
  cases e : ma ρ h with
  | ok a h' =>
    rw [e] at hb
    exact fun b H' μ' m hr' hv => k b a h' H' μ' m (sr.mono m) hr' hv (BkS.mono m hb)
  | exc x fs h' =>
    rw [e] at hb
    exact fun cls d H' μ' m hr' hx => hb cls d σ H' μ' m (sr.mono m) hr' hx
  | bad =>
    rw [e] at hb
    exact hb
end

/-! ### the judgements are monotone -/
section
variable {X : Cx}
theorem pe_mono {e : Expr} {t t' : TE} (h : PE X e t) (hm : ∀ σ H Q, t' σ H Q → t σ H Q) : PE X e t' := ⟨fun pins s σ H Q I q => h.run pins s σ H Q I (hm σ H Q q)⟩
theorem pt_mono {e : Expr} {t t' : TT} (h : PT X e t) (hm : ∀ σ H Q, t' σ H Q → t σ H Q) : PT X e t' := ⟨fun pins s σ H Q I q => h.run pins s σ H Q I (hm σ H Q q)⟩
theorem pw_mono {e : Expr} {t t' : TT} (h : PW X e t) (hm : ∀ σ H Q, t' σ H Q → t σ H Q) : PW X e t' := ⟨fun wh pins s σ H Q I q => h.run wh pins s σ H Q I (hm σ H Q q)⟩
theorem pa_mono {es : List Expr} {t t' : TA} (h : PA X es t) (hm : ∀ σ H Q, t' σ H Q → t σ H Q) : PA X es t' := ⟨fun pos pins s σ H Q I q => h.run pos pins s σ H Q I (hm σ H Q q)⟩
theorem ps_mono {st : Stmt} {t t' : TS} (h : PS X st t) (hm : ∀ E σ H, t' E σ H → t E σ H) : PS X st t' := ⟨fun pins s σ H E I q => h.run pins s σ H E I (hm E σ H q)⟩
theorem pss_mono {st : List Stmt} {t t' : TS} (h : PSs X st t) (hm : ∀ E σ H, t' E σ H → t E σ H) : PSs X st t' := ⟨fun pins s σ H E I q => h.run pins s σ H E I (hm E σ H q)⟩
end

/-! ### plain parts -/
def mVar (i : Nat) : ME := fun ρ h => match ρ[i]? with
  | some (some d) => .ok d h
  | _ => .bad
def mC (d : D) : ME := fun _ h => .ok d h
def mBin (f : D → D → MH → R D) (a b : ME) : ME := fun ρ h => (a ρ h).bind fun x h1 => (b ρ h1).bind fun y h2 => f x y h2
def mUn (f : D → MH → R D) (a : ME) : ME := fun ρ h => (a ρ h).bind fun x h1 => f x h1
def mNil : MA := fun _ h => .ok [] h
def mCons (a : ME) (r : MA) : MA := fun ρ h => (a ρ h).bind fun x h1 => (r ρ h1).bind fun xs h2 => .ok (x :: xs) h2
def mTup (a : MA) : ME := fun ρ h => (a ρ h).bind fun xs h1 => if xs.length ≤ 1000000 then .ok (.tup xs) h1 else .bad
def mLst (a : MA) : ME := fun ρ h => (a ρ h).bind fun xs h1 => if xs.length ≤ 1000000 then .ok (.ref h1.length) (h1 ++ [.lst xs]) else .bad
def mCall (F : List D → MH → R D) (a : MA) : ME := fun ρ h => (a ρ h).bind fun xs h1 => F xs h1

/-- an operation by values -/
def S2 (g : G) (r : R2) (f : D → D → MH → R D) : Prop := ∀ (H : Hp) (μ : List Addr) (h : MH) (x y : V) (a b : D) (Q : VK) (W : XK), HR g H μ h → VR g H μ x a → VR g H μ y b → Bk (VR g) g H μ (f a b h) Q W → r x y H Q
def S1 (g : G) (r : V → Hp → VK → Prop) (f : D → MH → R D) : Prop := ∀ (H : Hp) (μ : List Addr) (h : MH) (x : V) (a : D) (Q : VK) (W : XK), HR g H μ h → VR g H μ x a → Bk (VR g) g H μ (f a h) Q W → r x H Q
def SN (g : G) (r : List V → Hp → VK → Prop) (f : List D → MH → R D) : Prop := ∀ (H : Hp) (μ : List Addr) (h : MH) (xs : List V) (ds : List D) (Q : VK) (W : XK), HR g H μ h → VRs g H μ xs ds → Bk (VR g) g H μ (f ds h) Q W → r xs H Q
def SM (g : G) (r : V → List V → Hp → VK → Prop) (f : D → List D → MH → R D) : Prop := ∀ (H : Hp) (μ : List Addr) (h : MH) (x : V) (xs : List V) (a : D) (ds : List D) (Q : VK) (W : XK), HR g H μ h → VR g H μ x a → VRs g H μ xs ds → Bk (VR g) g H μ (f a ds h) Q W → r x xs H Q

section
variable {g : G} {H : Hp} {μ : List Addr} {h : MH} {Q : VK} {W : XK}
/-- the ends of an operation -/
theorem Bk.val {v : V} {d : D} (hb : Bk (VR g) g H μ (.ok d h) Q W) (hr : HR g H μ h) (hv : VR g H μ v d) : Q v H := hb v H μ Mon.refl hr hv
theorem Bk.newT {xs : List V} {ds : List D} {p : Addr} {ob : Obj} (hb : Bk (VR g) g H μ (.ok (.tup ds) h) Q W) (hr : HR g H μ h) (hv : VRs g H μ xs ds) (hp : H p = none) (ho : ob.dict = none) : Q (.ref p) (upd H p (.frz ob (.tup xs))) := by
  have m : Mon g H (upd H p (.frz ob (.tup xs))) μ μ := (Saf.fresh hp).mon
  exact hb _ _ μ m (hr.laid hp) (.tup (.inl ⟨ob, ho, upd_same⟩) (hv.mono m))
theorem mon_push {p : Addr} {o : HO} (hp : H p = none) : Mon g H (upd H p o) μ (μ ++ [p]) := ⟨List.prefix_append _ _, ((Saf.fresh hp : Saf H p).mon (g := g) (μ := μ) (o := o)).tups, ((Saf.fresh hp : Saf H p).mon (g := g) (μ := μ) (o := o)).xs, ((Saf.fresh hp : Saf H p).mon (g := g) (μ := μ) (o := o)).fz⟩
theorem ix_push {p : Addr} {n : Nat} (l : μ.length = n) : (μ ++ [p])[n]? = some p := by
  subst l
  simp
theorem Bk.newL {xs : List V} {ds : List D} {p : Addr} (hb : Bk (VR g) g H μ (.ok (.ref h.length) (h ++ [.lst ds])) Q W) (hr : HR g H μ h) (hv : VRs g H μ xs ds) (hp : H p = none) : Q (.ref p) (upd H p (.lst xs)) :=
  hb _ _ (μ ++ [p]) (mon_push hp) (hr.push hp ⟨xs, upd_same, hv.mono (mon_push hp)⟩) (.ref (ix_push hr.len))
theorem Bk.setL {xs xs' : List V} {ds ds' : List D} {p : Addr} {i : Nat} {v : V} {d : D} (hb : Bk (VR g) g H μ (.ok d (h.set i (.lst ds'))) Q W) (hr : HR g H μ h) (hi : μ[i]? = some p) (hh : h[i]? = some (.lst ds)) (hp : H p = some (.lst xs)) (hv : VRs g H μ xs' ds') (hd : VR g H μ v d) : Q v (upd H p (.lst xs')) := by
  have m : Mon g H (upd H p (.lst xs')) μ μ := (Saf.lst hp).mon
  exact hb v _ μ m (hr.write hi hh rfl (Saf.lst hp) rfl ⟨xs', upd_same, hv.mono m⟩) (hd.mono m)
/-- a cell that is a list -/
theorem HR.lst {i : Nat} {p : Addr} {ds : List D} (hr : HR g H μ h) (hi : μ[i]? = some p) (hh : h[i]? = some (.lst ds)) : ∃ xs, H p = some (.lst xs) ∧ VRs g H μ xs ds := hr.ob i p _ hi hh
/-- a list that may be read: a cell that changes or not -/
def getL (h : MH) (i : Nat) : Option (List D) := match h[i]? with
  | some (.lst l) => some l
  | some (.rol l) => some l
  | _ => none
theorem HR.list {i : Nat} {p : Addr} {ds : List D} (hr : HR g H μ h) (hi : μ[i]? = some p) (hh : getL h i = some ds) : ∃ xs, SqL g.K H p xs ∧ VRs g H μ xs ds := by
  unfold getL at hh
  split at hh
  · rename_i l e
    cases hh
    obtain ⟨xs, a, b⟩ := hr.ob i p _ hi e
    exact ⟨xs, .inl (.inl a), b⟩
  · rename_i l e
    cases hh
    obtain ⟨xs, a, b⟩ := hr.ob i p _ hi e
    exact ⟨xs, a.sq, b⟩
  · cases hh
end
theorem sz6 {n : Nat} (h : n ≤ 1000000) : n ≤ sizeLine := Nat.le_trans h (by decide)
theorem sz6' {n : Nat} (h : n < 1000000) : n < sizeLine := Nat.lt_trans h (by decide)

section
variable {X : Cx} {g : G} {W : WX} {a b e : Expr} {ma mb : ME} {pos : Pos} {es : List Expr} {mr : MA}
theorem se_var {i : Nat} {x : Str} (hN : X.N[i]? = some x) (hv : Vis X.env.scope x) (hd : (x == ("__debug__" : Str)) = false := by decide) (hcd : (x == ("__classdict__" : Str)) = false := by decide) : PE X (.Name x pos) (tE g W (mVar i)) :=
  pe_mono (pe_var hN hv hd hcd) fun σ H Q ⟨ρ, h, μ, sr, hr, bk⟩ => by
    unfold mVar at bk
    split at bk
    · rename_i d e
      obtain ⟨v, h1, h2⟩ := sr.get e
      exact ⟨v, h1, bk.val hr h2⟩
    · exact bk.elim
theorem mv (i : Nat) {x : Str} {pos : Pos} (hN : X.N[i]? = some x := by rfl) (hv : Vis X.env.scope x := by first | exact Or.inl rfl | exact Or.inr (Or.inl rfl) | exact Or.inr (Or.inr rfl)) (hd : (x == ("__debug__" : Str)) = false := by decide)
    (hcd : (x == ("__classdict__" : Str)) = false := by decide) : PE X (.Name x pos) (tE g W (mVar i)) := se_var hN hv hd hcd
theorem se_const {v : V} {d : D} (h : PE X e (tC v)) (hv : ∀ H μ, VR g H μ v d) : PE X e (tE g W (mC d)) := pe_mono h fun σ H Q ⟨ρ, hh, μ, sr, hr, bk⟩ => bk.val hr (hv H μ)
theorem se_int {i : Int} {j : Nat} : PE X (.Constant (.int i) j pos) (tE g W (mC (.int i))) := se_const pe_int fun _ _ => .int i
theorem se_bl {i : Bool} {j : Nat} : PE X (.Constant (.bool i) j pos) (tE g W (mC (.bl i))) := se_const pe_bl fun _ _ => .bl i
theorem se_non {j : Nat} : PE X (.Constant .none j pos) (tE g W (mC .non)) := se_const pe_non fun _ _ => .non
theorem se_str {x : Str} {j : Nat} : PE X (.Constant (.str x) j pos) (tE g W (mC (.str x))) := se_const pe_str fun _ _ => .str x
theorem se_globS {x y : Str} {t : Tok} (hg : Gl X x) (hm : X.mg x = some (.str y t)) (hd : (x == ("__debug__" : Str)) = false := by decide) : PE X (.Name x pos) (tE g W (mC (.str y))) := se_const (pe_glob (v := .str y) hg hm ⟨t, rfl⟩ hd) fun _ _ => .str y
theorem se_globI {x : Str} {y : Int} {t : Tok} (hg : Gl X x) (hm : X.mg x = some (.int y t)) (hd : (x == ("__debug__" : Str)) = false := by decide) : PE X (.Name x pos) (tE g W (mC (.int y))) := se_const (pe_glob (v := .int y) hg hm ⟨t, rfl⟩ hd) fun _ _ => .int y
/-- two parts by values -/
theorem two {r : R2} {f : D → D → MH → R D} (hs : S2 g r f) {σ : St} {H : Hp} {Q : VK} (q : tE g W (mBin f ma mb) σ H Q) : tOp r (tE g W ma) (tE g W mb) σ H Q := by
  obtain ⟨ρ, h, μ, sr, hr, bk⟩ := q
  exact step sr hr bk fun x a h1 H1 μ1 m1 sr1 hr1 vx bk1 => step sr1 hr1 bk1 fun y b h2 H2 μ2 m2 sr2 hr2 vy bk2 => hs H2 μ2 h2 x y a b Q _ hr2 (vx.mono m2) vy bk2
theorem se_bin {op : Operator} {r : R2} {f : D → D → MH → R D} (ho : OpR X (binaryOp op) r) (hs : S2 g r f) (ha : PE X a (tE g W ma)) (hb : PE X b (tE g W mb)) : PE X (.BinOp a op b pos) (tE g W (mBin f ma mb)) :=
  pe_mono (pe_op ho ha hb) fun σ H Q q => two hs q
theorem se_cmp {op : CmpOp} {r : R2} {f : D → D → MH → R D} (ho : OpR X (compareOp op) r) (hs : S2 g r f) (ha : PE X a (tE g W ma)) (hb : PE X b (tE g W mb)) (hm : behindInMarks op b = false) : PE X (.Compare a [op] [b] pos) (tE g W (mBin f ma mb)) :=
  pe_mono (pe_cmpR ho ha hb hm) fun σ H Q q => two hs q
theorem se_un {op : UnaryOp} {r : V → Hp → VK → Prop} {f : D → MH → R D} (ho : UnR X (unaryOp op) r) (hs : S1 g r f) (ha : PE X a (tE g W ma)) : PE X (.UnaryOp op a pos) (tE g W (mUn f ma)) :=
  pe_mono (pe_un ho ha) fun σ H Q ⟨ρ, h, μ, sr, hr, bk⟩ => step sr hr bk fun x a h1 H1 μ1 m1 sr1 hr1 vx bk1 => hs H1 μ1 h1 x a Q _ hr1 vx bk1
theorem se_ix {r : R2} {f : D → D → MH → R D} (hx : IxR X r) (hs : S2 g r f) (ha : PE X a (tE g W ma)) (hb : PE X b (tE g W mb)) (hp : PlainIx b) : PE X (.Subscript a b pos) (tE g W (mBin f ma mb)) :=
  pe_mono (pe_ix hx ha hb hp) fun σ H Q q => two hs q

/-! ### arguments, displays -/
theorem sa_nil : PA X [] (tA g W mNil) := pa_mono pa_nil fun σ H Q ⟨ρ, h, μ, sr, hr, bk⟩ => bk [] H μ Mon.refl hr .nil
theorem sa_cons (ha : PE X e (tE g W ma)) (hr : PA X es (tA g W mr)) (hs : starEach (e :: es) X.env = (false, eval e X.env) :: starEach es X.env := by rfl) : PA X (e :: es) (tA g W (mCons ma mr)) :=
  pa_mono (pa_cons ha hr hs) fun σ H Q ⟨ρ, h, μ, sr, hr, bk⟩ => step sr hr bk fun x a h1 H1 μ1 m1 sr1 hr1 vx bk1 => step sr1 hr1 bk1 fun xs ds h2 H2 μ2 m2 sr2 hr2 vs bk2 => bk2 (x :: xs) H2 μ2 Mon.refl hr2 (.cons (vx.mono m2) vs)
theorem se_tup {x1 : Nat} (h : PA X es (tA g W mr)) : PE X (.Tuple es x1 pos) (tE g W (mTup mr)) :=
  pe_mono (pe_tupF h) fun σ H Q ⟨ρ, h, μ, sr, hr, bk⟩ => step sr hr bk fun xs ds h1 H1 μ1 m1 sr1 hr1 vs bk1 => by
    split at bk1
    · rename_i hl
      exact ⟨by rw [vs.length]; exact sz6 hl, fun p ob hp ho => bk1.newT hr1 vs hp ho⟩
    · exact bk1.elim
theorem se_lst (h : PA X es (tA g W mr)) : PE X (.List es pos) (tE g W (mLst mr)) :=
  pe_mono (pe_lst h) fun σ H Q ⟨ρ, h, μ, sr, hr, bk⟩ => step sr hr bk fun xs ds h1 H1 μ1 m1 sr1 hr1 vs bk1 => by
    split at bk1
    · rename_i hl
      exact ⟨by rw [vs.length]; exact sz6 hl, fun p hp => bk1.newL hr1 vs hp⟩
    · exact bk1.elim
/-! ### calls of built-ins -/
theorem se_callB {x : Str} {p : Pos} {id : String} {r : List V → Hp → VK → Prop} {f : List D → MH → R D} (hc : CallR X (.builtin id) r) (hs : SN g r f) (hg : Gl X x) (hm : X.mg x = none) (hv : bootBuiltins x = some (.builtin id)) (ha : PA X (e :: es) (tA g W mr))
    (hn : x ≠ "__name__" := by decide) (hdb : (x == ("__debug__" : Str)) = false := by decide)
    (he : starEach (e :: es) X.env = (false, eval e X.env) :: starEach es X.env := by rfl) (hpl : (backTo pos (starEach es X.env)).any (·.1) = false := by rfl) : PE X (.Call (.Name x p) (e :: es) [] pos) (tE g W (mCall f mr)) :=
  pe_mono (pe_callB hc hg hm hv ha hn hdb he hpl) fun σ H Q ⟨ρ, h, μ, sr, hr, bk⟩ => step sr hr bk fun xs ds h1 H1 μ1 m1 sr1 hr1 vs bk1 => hs H1 μ1 h1 xs ds Q _ hr1 vs bk1
theorem se_callTy {x : Str} {p : Pos} {T : String} {r : List V → Hp → VK → Prop} {f : List D → MH → R D} (hc : CallR X (.type T) r) (hs : SN g r f) (hg : Gl X x) (hm : X.mg x = none) (hv : bootBuiltins x = some (.type T)) (ha : PA X (e :: es) (tA g W mr))
    (hn : x ≠ "__name__" := by decide) (hdb : (x == ("__debug__" : Str)) = false := by decide)
    (he : starEach (e :: es) X.env = (false, eval e X.env) :: starEach es X.env := by rfl) (hpl : (backTo pos (starEach es X.env)).any (·.1) = false := by rfl) : PE X (.Call (.Name x p) (e :: es) [] pos) (tE g W (mCall f mr)) :=
  pe_mono (pe_callTy hc hg hm hv ha hn hdb he hpl) fun σ H Q ⟨ρ, h, μ, sr, hr, bk⟩ => step sr hr bk fun xs ds h1 H1 μ1 m1 sr1 hr1 vs bk1 => hs H1 μ1 h1 xs ds Q _ hr1 vs bk1
/-! ### methods of built-in types -/
def mMeth (T : D → MH → Bool) (f : D → List D → MH → R D) (a : ME) (r : MA) : ME := fun ρ h => (a ρ h).bind fun x h1 => if T x h1 = true then (r ρ h1).bind fun xs h2 => f x xs h2 else .bad
def isListD (x : D) (h : MH) : Bool := match x with
  | .ref i => (getL h i).isSome
  | _ => false
def isStrD (x : D) (_ : MH) : Bool := match x with
  | .str _ => true
  | _ => false
def isTupD (x : D) (_ : MH) : Bool := match x with
  | .tup _ => true
  | _ => false
/-! ### defs of the program -/
def spM (g : G) (F : List D → MH → R D) : Sp := fun vs H Q E => ∃ ds h μ, VRs g H μ vs ds ∧ HR g H μ h ∧ Bk (VR g) g H μ (F ds h) Q E
theorem se_call {k : Nat} {f : Addr} {fd : FuncData} {ps : List Str} {F : List D → MH → R D} {x : Str} {p : Pos} (FF : FnOk X.prog X.w X.K X.mg X.base (L2.CX X.prog X.w) k f fd ps (spM g F)) (hr : Room k X.A) (tk : Takes X W) (hm : X.mg x = some (.ref f)) (hk : PySem.W.keepIn X.K (.ref f) = true) (hb : Binds X.K fd ps [])
    (ha : PA X (e :: es) (tA g W mr)) (hg : Gl X x := by rfl) (hdb : (x == ("__debug__" : Str)) = false := by decide) (he : starEach (e :: es) X.env = (false, eval e X.env) :: starEach es X.env := by rfl) (hpl : (backTo pos (starEach es X.env)).any (·.1) = false := by rfl) :
    PE X (.Call (.Name x p) (e :: es) [] pos) (tE g W (mCall F mr)) :=
  pe_mono (pe_callS FF hr hg hm hk hb (fun σ => passAt tk σ) ha hdb he hpl) fun σ H Q ⟨ρ, h, μ, sr, hr, bk⟩ => step sr hr bk fun xs ds h1 H1 μ1 m1 sr1 hr1 vs bk1 => ⟨ds, h1, μ1, vs, hr1, bk1⟩

/-! ### tests -/
def mB (a : ME) : MT := fun ρ h => (a ρ h).bind fun x h1 => match x with
  | .bl b => .ok b h1
  | _ => .bad
def mAnd (a b : MT) : MT := fun ρ h => (a ρ h).bind fun x h1 => if x = true then b ρ h1 else .ok false h1
def mOr (a b : MT) : MT := fun ρ h => (a ρ h).bind fun x h1 => if x = true then .ok true h1 else b ρ h1
def mNot (a : MT) : MT := fun ρ h => (a ρ h).bind fun x h1 => .ok (!x) h1
theorem bl_of {σ : St} {H : Hp} {Q : Bool → Hp → Prop} (q : tT g W (mB ma) σ H Q) : tE g W ma σ H fun x H1 => ∃ c, x = .bl c ∧ Q c H1 := by
  obtain ⟨ρ, h, μ, sr, hr, bk⟩ := q
  refine step (rel := VR) (rel' := fun _ => eqR) (ma := ma) sr hr bk fun x a h1 H1 μ1 m1 sr1 hr1 vx bk1 => ?_
  cases vx with
  | bl b => exact ⟨b, rfl, bk1 b H1 μ1 Mon.refl hr1 rfl⟩
  | _ => exact bk1.elim
theorem st_val (ha : PE X a (tE g W ma)) (he : ∀ whole, isTrue a X.env whole = (do let v ← whole; standAt a.pos; holding [v] (truthy v)) := by intro _; rfl) : PT X a (tT g W (mB ma)) :=
  pt_mono (pt_val ha he) fun σ H Q q => bl_of q
theorem st_cmp {op : CmpOp} {r : R2} {f : D → D → MH → R D} (ho : OpR X (compareOp op) r) (hs : S2 g r f) (ha : PE X a (tE g W ma)) (hb : PE X b (tE g W mb)) (hm : behindInMarks op b = false) : PT X (.Compare a [op] [b] pos) (tT g W (mB (mBin f ma mb))) :=
  pt_mono (pt_cmpR ho ha hb hm) fun σ H Q ⟨ρ, h, μ, sr, hr, bk⟩ => by
    refine two (W := W) (f := f) hs ⟨ρ, h, μ, sr, hr, ?_⟩
    refine Bk.bind bk fun a h1 b H1 μ1 _ m hr1 hv bk1 => ?_
    cases hv with
    | bl b => exact ⟨b, rfl, bk1 b H1 μ1 Mon.refl hr1 rfl⟩
    | _ => exact bk1.elim
variable {tm um : MT} {rest : List Expr}
theorem st_not (ha : PT X a (tT g W tm)) : PT X (.UnaryOp .Not a pos) (tT g W (mNot tm)) :=
  pt_mono (pt_not ha) fun σ H Q ⟨ρ, h, μ, sr, hr, bk⟩ => step (rel := fun _ => eqR) (rel' := fun _ => eqR) (ma := tm) (Q' := Q) sr hr bk fun x a h1 H1 μ1 m1 sr1 hr1 vx bk1 => by
    cases vx
    exact bk1 _ H1 μ1 Mon.refl hr1 rfl
theorem sw_and1 (ha : PT X a (tT g W tm)) : PW X (.BoolOp .And [a] pos) (tT g W tm) := pw_and1 ha
theorem sw_or1 (ha : PT X a (tT g W tm)) : PW X (.BoolOp .Or [a] pos) (tT g W tm) := pw_or1 ha
theorem sw_and (ha : PT X a (tT g W tm)) (hb : PW X (.BoolOp .And (b :: rest) pos) (tT g W um)) : PW X (.BoolOp .And (a :: b :: rest) pos) (tT g W (mAnd tm um)) :=
  pw_mono (pw_and ha hb) fun σ H Q ⟨ρ, h, μ, sr, hr, bk⟩ => step (rel := fun _ => eqR) (rel' := fun _ => eqR) (ma := tm) (Q' := Q) sr hr bk fun x a h1 H1 μ1 m1 sr1 hr1 vx bk1 => by
    cases vx
    cases x with
    | true => exact ⟨ρ, h1, μ1, sr1, hr1, bk1⟩
    | false => exact bk1 _ H1 μ1 Mon.refl hr1 rfl
theorem sw_or (ha : PT X a (tT g W tm)) (hb : PW X (.BoolOp .Or (b :: rest) pos) (tT g W um)) : PW X (.BoolOp .Or (a :: b :: rest) pos) (tT g W (mOr tm um)) :=
  pw_mono (pw_or ha hb) fun σ H Q ⟨ρ, h, μ, sr, hr, bk⟩ => step (rel := fun _ => eqR) (rel' := fun _ => eqR) (ma := tm) (Q' := Q) sr hr bk fun x a h1 H1 μ1 m1 sr1 hr1 vx bk1 => by
    cases vx
    cases x with
    | false => exact ⟨ρ, h1, μ1, sr1, hr1, bk1⟩
    | true => exact bk1 _ H1 μ1 Mon.refl hr1 rfl
/-! ### and, or, not as values (of truths) -/
def mAndV (a b : ME) : ME := fun ρ h => (a ρ h).bind fun x h1 => match x with
  | .bl true => b ρ h1
  | .bl false => .ok (.bl false) h1
  | _ => .bad
def mOrV (a b : ME) : ME := fun ρ h => (a ρ h).bind fun x h1 => match x with
  | .bl false => b ρ h1
  | .bl true => .ok (.bl true) h1
  | _ => .bad
def mNotV (a : ME) : ME := fun ρ h => (a ρ h).bind fun x h1 => match x with
  | .bl b => .ok (.bl (!b)) h1
  | _ => .bad
theorem se_one {op : BoolOp} {t : TE} (h : PE X a t) : PE X (.BoolOp op [a] pos) t := pe_one h
theorem se_and (ha : PE X a (tE g W ma)) (hb : PE X (.BoolOp .And (b :: rest) pos) (tE g W mb)) : PE X (.BoolOp .And (a :: b :: rest) pos) (tE g W (mAndV ma mb)) :=
  pe_mono (pe_and ha hb) fun σ H Q ⟨ρ, h, μ, sr, hr, bk⟩ => step (rel := VR) (rel' := VR) (ma := ma) (Q' := Q) sr hr bk fun x a h1 H1 μ1 m1 sr1 hr1 vx bk1 => by
    cases vx with
    | bl b =>
      cases b with
      | true => exact ⟨true, rfl, ρ, h1, μ1, sr1, hr1, bk1⟩
      | false => exact ⟨false, rfl, bk1.val hr1 (.bl false)⟩
    | _ => exact bk1.elim
theorem se_not (ha : PE X a (tE g W ma)) : PE X (.UnaryOp .Not a pos) (tE g W (mNotV ma)) :=
  pe_mono (pe_not ha) fun σ H Q ⟨ρ, h, μ, sr, hr, bk⟩ => step (rel := VR) (rel' := VR) (ma := ma) (Q' := Q) sr hr bk fun x a h1 H1 μ1 m1 sr1 hr1 vx bk1 => by
    cases vx with
    | bl b => exact ⟨b, rfl, bk1.val hr1 (.bl _)⟩
    | _ => exact bk1.elim
def mIfE (c : MT) (a b : ME) : ME := fun ρ h => (c ρ h).bind fun x h1 => if x = true then a ρ h1 else b ρ h1
end

/-! ### statements -/
def mSkip : MS := fun ρ h => .nx ρ h
def mSeq (a b : MS) : MS := fun ρ h => match a ρ h with
  | .nx ρ' h' => b ρ' h'
  | o => o
def mBreak : MS := fun ρ h => .bk ρ h
def mCont : MS := fun ρ h => .ct ρ h
def mDrop (e : ME) : MS := fun ρ h => (e ρ h).out ρ fun _ h1 => .nx ρ h1
def mRet (e : ME) : MS := fun ρ h => (e ρ h).out ρ fun d h1 => .rt d h1
def mRetN : MS := fun _ h => .rt .non h
def mIf (c : MT) (a b : MS) : MS := fun ρ h => (c ρ h).out ρ fun x h1 => if x = true then a ρ h1 else b ρ h1
def mAsg (i : Nat) (e : ME) : MS := fun ρ h => (e ρ h).out ρ fun d h1 => .nx (ρ.set i (some d)) h1
section
variable {X : Cx} {g : G} {W : WX} {e : Expr} {me : ME} {pos : Pos} {st : Stmt} {rest : List Stmt} {ms mr : MS}
theorem ss_nil : PSs X [] (tS g W mSkip) := pss_mono pss_nil fun E σ H ⟨ρ, h, μ, sr, hr, bk⟩ => bk σ H μ Mon.refl sr hr
theorem seq_of {E : Ends} {σ : St} {H : Hp} (q : tS g W (mSeq ms mr) E σ H) : tSeq (tS g W ms) (tS g W mr) E σ H := by
  obtain ⟨ρ, h, μ, sr, hr, bk⟩ := q
  refine ⟨ρ, h, μ, sr, hr, ?_⟩
  unfold mSeq at bk
  cases e : ms ρ h with
  | nx ρ' h' =>
    rw [e] at bk
    exact fun σ' H' μ' m sr' hr' => ⟨ρ', h', μ', sr', hr', BkS.mono m bk⟩
  | rt d h' => rw [e] at bk; exact bk
  | bk ρ' h' => rw [e] at bk; exact bk
  | ct ρ' h' => rw [e] at bk; exact bk
  | exc x fs ρ' h' => rw [e] at bk; exact bk
  | bad => rw [e] at bk; exact bk
theorem ss_cons (h1 : PS X st (tS g W ms)) (h2 : PSs X rest (tS g W mr)) : PSs X (st :: rest) (tS g W (mSeq ms mr)) := pss_mono (pss_cons h1 h2) fun E σ H q => seq_of q
theorem ss_one (h1 : PS X st (tS g W ms)) : PSs X [st] (tS g W ms) := pss_one h1
theorem sx_pass : PS X (.Pass pos) (tS g W mSkip) := ps_mono ps_pass fun E σ H ⟨ρ, h, μ, sr, hr, bk⟩ => bk σ H μ Mon.refl sr hr
theorem sx_expr (he : PE X e (tE g W me)) (hs : swapsWith e none pos.line X.env = pure false := by rfl) : PS X (.Expr e pos) (tS g W (mDrop me)) :=
  ps_mono (ps_expr he hs) fun E σ H ⟨ρ, h, μ, sr, hr, bk⟩ => stepS (rel := VR) (ma := me) (E := E) sr hr bk fun x a h1 H1 μ1 m1 sr1 hr1 vx bk1 => bk1 σ H1 μ1 Mon.refl sr1 hr1
theorem sx_ret (he : PE X e (tE g W me)) : PS X (.Return (some e) pos) (tS g W (mRet me)) :=
  ps_mono (ps_ret he) fun E σ H ⟨ρ, h, μ, sr, hr, bk⟩ => stepS (rel := VR) (ma := me) (E := E) sr hr bk fun x a h1 H1 μ1 m1 sr1 hr1 vx bk1 => bk1 x H1 μ1 Mon.refl hr1 vx
theorem sx_if {c : Expr} {a b : List Stmt} {tm : MT} (hc : PT X c (tT g W tm)) (ha : PSs X a (tS g W ms)) (hb : PSs X b (tS g W mr)) : PS X (.If c a b pos) (tS g W (mIf tm ms mr)) :=
  ps_mono (ps_if hc ha hb) fun E σ H ⟨ρ, h, μ, sr, hr, bk⟩ => stepS (rel := fun _ => eqR) (ma := tm) (E := E) sr hr bk fun x a h1 H1 μ1 m1 sr1 hr1 vx bk1 => by
    cases vx
    cases x with
    | true => exact ⟨ρ, h1, μ1, sr1, hr1, bk1⟩
    | false => exact ⟨ρ, h1, μ1, sr1, hr1, bk1⟩
theorem sx_set {i : Nat} {x : Str} {pos' : Pos} (he : PE X e (tE g W me)) (hN : X.N.Nodup) (hi : X.N[i]? = some x := by rfl) (hx : Loc X.env.scope x := by first | exact Or.inl rfl | exact Or.inr rfl) (hs : swapsWith e (some (.Name x pos')) pos.line X.env = pure false := by rfl)
    (hf : X.fn x = true ∨ X.env.scope.names.lookup x = some .local := by first | exact .inl rfl | exact .inr rfl | assumption) : PS X (.Assign [.Name x pos'] e pos) (tS g W (mAsg i me)) :=
  ps_mono (ps_set hN hi hx he hs hf) fun E σ H ⟨ρ, h, μ, sr, hr, bk⟩ => stepS (rel := VR) (ma := me) (E := E) sr hr bk fun v d h1 H1 μ1 m1 sr1 hr1 vx bk1 => bk1 _ H1 μ1 Mon.refl (sr1.set i vx) hr1
end
end Mi
namespace Mi
open PySem L2

/-! ### operators by values -/
def dAdd : D → D → MH → R D
  | .int i, .int j, h => .ok (.int (i + j)) h
  | .str x, .str y, h => if x.length + y.length ≤ 1000000 then .ok (.str (x ++ y)) h else .bad
  | .tup a, .tup b, h => if a.length + b.length ≤ 1000000 then .ok (.tup (a ++ b)) h else .bad
  | .ref i, .ref j, h => match h[i]?, h[j]? with
    | some (.lst a), some (.lst b) => if a.length + b.length ≤ 1000000 then .ok (.ref h.length) (h ++ [.lst (a ++ b)]) else .bad
    | _, _ => .bad
  | _, _, _ => .bad
def dSub : D → D → MH → R D
  | .int i, .int j, h => .ok (.int (i - j)) h
  | _, _, _ => .bad
def dMul : D → D → MH → R D
  | .int i, .int j, h => if (Builtin.Int.intBits i : Int) + (Builtin.Int.intBits j : Int) ≤ 134217728 then .ok (.int (i * j)) h else .bad
  | .str x, .int n, h => if n ≤ 1000000 ∧ -1000000 ≤ n ∧ x.length * n.toNat ≤ 1000000 then .ok (.str (Txt.mul x n)) h else .bad
  | _, _, _ => .bad
def dFdiv : D → D → MH → R D
  | .int i, .int j, h => if 0 < j ∧ j.natAbs.log2 < 9000 then .ok (.int (i / j)) h else .bad
  | _, _, _ => .bad
def dMod : D → D → MH → R D
  | .int i, .int j, h => if 0 < j then .ok (.int (i % j)) h else .bad
  | _, _, _ => .bad
def dPow : D → D → MH → R D
  | .int i, .int j, h => if 0 ≤ j ∧ j ≤ 1000000 ∧ i.natAbs < 2 ^ 64 then .ok (.int (i ^ j.toNat)) h else .bad
  | _, _, _ => .bad
def dShl : D → D → MH → R D
  | .int i, .int j, h => if 0 ≤ j ∧ j ≤ 1000000 ∧ i.natAbs < 2 ^ 64 then .ok (.int (i * 2 ^ j.toNat)) h else .bad
  | _, _, _ => .bad
def dBand : D → D → MH → R D
  | .int i, .int j, h => .ok (.int (Builtin.bitAnd i j)) h
  | _, _, _ => .bad
def dBor : D → D → MH → R D
  | .int i, .int j, h => .ok (.int (Builtin.bitOr i j)) h
  | _, _, _ => .bad
def dLt : D → D → MH → R D
  | .int i, .int j, h => .ok (.bl (decide (i < j))) h
  | _, _, _ => .bad
def dLe : D → D → MH → R D
  | .int i, .int j, h => .ok (.bl (decide (i ≤ j))) h
  | _, _, _ => .bad
def dGt : D → D → MH → R D
  | .int i, .int j, h => .ok (.bl (decide (j < i))) h
  | _, _, _ => .bad
def dGe : D → D → MH → R D
  | .int i, .int j, h => .ok (.bl (decide (j ≤ i))) h
  | _, _, _ => .bad
def dNeg : D → MH → R D
  | .int i, h => .ok (.int (-i)) h
  | _, _ => .bad

section
variable {g : G} {X : Cx}
theorem s2_int {C : Int → Int → Prop} [∀ i j, Decidable (C i j)] {o : Int → Int → Int} {f : D → D → MH → R D} (hi : ∀ i j h, f (.int i) (.int j) h = if C i j then .ok (.int (o i j)) h else .bad) (hb : ∀ a b h, (∀ i j, ¬ (a = .int i ∧ b = .int j)) → f a b h = .bad) :
    S2 g (rI C fun i j => .int (o i j)) f := by
  intro H μ h x y a b Q W hr vx vy bk
  have no : (∀ i j, ¬ (a = .int i ∧ b = .int j)) → rI C (fun i j => .int (o i j)) x y H Q := fun z => by rw [hb a b h z] at bk; exact bk.elim
  cases vx with
  | int i =>
    cases vy with
    | int j =>
      rw [hi] at bk
      by_cases c : C i j
      · rw [if_pos c] at bk
        exact ⟨i, j, rfl, rfl, c, bk.val hr (.int _)⟩
      · rw [if_neg c] at bk; exact bk.elim
    | _ => exact no fun _ _ z => nomatch z.2
  | _ => exact no fun _ _ z => nomatch z.1
theorem s2_int0 {o : Int → Int → V} {o' : Int → Int → D} {f : D → D → MH → R D} (hi : ∀ i j h, f (.int i) (.int j) h = .ok (o' i j) h) (hv : ∀ H μ i j, VR g H μ (o i j) (o' i j)) (hb : ∀ a b h, (∀ i j, ¬ (a = .int i ∧ b = .int j)) → f a b h = .bad) :
    S2 g (rI0 o) f := by
  intro H μ h x y a b Q W hr vx vy bk
  have no : (∀ i j, ¬ (a = .int i ∧ b = .int j)) → rI0 o x y H Q := fun z => by rw [hb a b h z] at bk; exact bk.elim
  cases vx with
  | int i =>
    cases vy with
    | int j =>
      rw [hi] at bk
      exact ⟨i, j, rfl, rfl, bk.val hr (hv _ _ _ _)⟩
    | _ => exact no fun _ _ z => nomatch z.2
  | _ => exact no fun _ _ z => nomatch z.1
theorem int_bad {f : D → D → MH → R D} (hf : ∀ (a b : D) (h : MH), (match a, b with | D.int _, D.int _ => True | _, _ => f a b h = .bad)) : ∀ a b h, (∀ i j, ¬ (a = .int i ∧ b = .int j)) → f a b h = .bad := fun a b h z => by
  have := hf a b h
  split at this
  · exact absurd ⟨rfl, rfl⟩ (z _ _)
  · exact this
theorem s2_sub : S2 g (rI0 fun i j => .int (i - j)) dSub := s2_int0 (o' := fun i j => .int (i - j)) (fun _ _ _ => rfl) (fun _ _ _ _ => .int _) (int_bad fun a b h => by cases a <;> cases b <;> first | trivial | rfl)
theorem s2_fdiv : S2 g (rI CDivW fun i j => .int (i / j)) dFdiv := s2_int (C := fun i j => 0 < j ∧ j.natAbs.log2 < 9000) (o := fun i j => i / j) (fun _ _ _ => rfl) (int_bad fun a b h => by cases a <;> cases b <;> first | trivial | rfl)
theorem s2_mod : S2 g (rI (fun _ j => 0 < j) fun i j => .int (i % j)) dMod := s2_int (C := fun i j => 0 < j) (o := fun i j => i % j) (fun _ _ _ => rfl) (int_bad fun a b h => by cases a <;> cases b <;> first | trivial | rfl)
theorem s2_pow : S2 g (rI CPow fun i j => .int (i ^ j.toNat)) dPow := s2_int (C := fun i j => 0 ≤ j ∧ j ≤ 1000000 ∧ i.natAbs < 2 ^ 64) (o := fun i j => i ^ j.toNat) (fun _ _ _ => rfl) (int_bad fun a b h => by cases a <;> cases b <;> first | trivial | rfl)
theorem s2_shl : S2 g (rI CPow fun i j => .int (i * 2 ^ j.toNat)) dShl := s2_int (C := fun i j => 0 ≤ j ∧ j ≤ 1000000 ∧ i.natAbs < 2 ^ 64) (o := fun i j => i * 2 ^ j.toNat) (fun _ _ _ => rfl) (int_bad fun a b h => by cases a <;> cases b <;> first | trivial | rfl)
theorem s2_band : S2 g (rI0 fun i j => .int (Builtin.bitAnd i j)) dBand := s2_int0 (o' := fun i j => .int (Builtin.bitAnd i j)) (fun _ _ _ => rfl) (fun _ _ _ _ => .int _) (int_bad fun a b h => by cases a <;> cases b <;> first | trivial | rfl)
theorem s2_lt : S2 g (rI0 fun i j => .bl (decide (i < j))) dLt := s2_int0 (o' := fun i j => .bl (decide (i < j))) (fun _ _ _ => rfl) (fun _ _ _ _ => .bl _) (int_bad fun a b h => by cases a <;> cases b <;> first | trivial | rfl)
theorem s2_gt : S2 g (rI0 fun i j => .bl (decide (j < i))) dGt := s2_int0 (o' := fun i j => .bl (decide (j < i))) (fun _ _ _ => rfl) (fun _ _ _ _ => .bl _) (int_bad fun a b h => by cases a <;> cases b <;> first | trivial | rfl)
theorem s2_ge : S2 g (rI0 fun i j => .bl (decide (j ≤ i))) dGe := s2_int0 (o' := fun i j => .bl (decide (j ≤ i))) (fun _ _ _ => rfl) (fun _ _ _ _ => .bl _) (int_bad fun a b h => by cases a <;> cases b <;> first | trivial | rfl)
theorem s1_neg : S1 g (rU fun i => .int (-i)) dNeg := by
  intro H μ h x a Q W hr vx bk
  cases vx with
  | int i => exact ⟨i, rfl, bk.val hr (.int _)⟩
  | _ => exact bk.elim
/-- + -/
def rAddA (K : PySem.W.Frag) : R2 := fun x y H Q => (rI0 (fun i j => .int (i + j)) x y H Q ∨ (∃ i j, x = .str i ∧ y = .str j ∧ i.length + j.length ≤ sizeLine ∧ Q (.str (i ++ j)) H)) ∨ (rCatF K x y H Q ∨ rCat x y H Q)
theorem op_addA : OpR X (binaryOp .Add) (rAddA X.K) := (op_add.or op_add_str).or (op_catF.or op_cat)
theorem nil_of_vrs {H : Hp} {μ : List Addr} {xs : List V} {ds : List D} (h : VRs g H μ xs ds) (e : xs = []) : ds = [] := by subst e; cases h; rfl
theorem s2_add : S2 g (rAddA g.K) dAdd := by
  intro H μ h x y a b Q W hr vx vy bk
  cases vx with
  | int i =>
    cases vy with
    | int j => exact .inl (.inl ⟨i, j, rfl, rfl, bk.val hr (.int _)⟩)
    | _ => exact bk.elim
  | str i =>
    cases vy with
    | str j =>
      simp only [dAdd] at bk
      split at bk
      · rename_i hl
        exact .inl (.inr ⟨i, j, rfl, rfl, sz6 hl, bk.val hr (.str _)⟩)
      · exact bk.elim
    | _ => exact bk.elim
  | @tup p xs ds hs vs =>
    cases vy with
    | @tup q ys es ht vt =>
      simp only [dAdd] at bk
      split at bk
      · rename_i hl
        refine .inr (.inl ⟨p, q, xs, ys, rfl, rfl, hs.sq, ht.sq, by rw [vs.length, vt.length]; exact sz6 hl, fun e => ?_, fun e e' => ?_, fun e e' r ob hr' ho => ?_⟩)
        · rw [nil_of_vrs vs e] at bk
          exact bk.val hr (.tup ht vt)
        · rw [nil_of_vrs vt e', List.append_nil] at bk
          exact bk.val hr (.tup hs vs)
        · exact bk.newT hr (vs.append vt) hr' ho
      · exact bk.elim
    | _ => exact bk.elim
  | @ref p i hi =>
    cases vy with
    | @ref q j hj =>
      simp only [dAdd] at bk
      split at bk
      · rename_i l1 l2 e1 e2
        obtain ⟨xs, h1, v1⟩ := hr.lst hi e1
        obtain ⟨ys, h2, v2⟩ := hr.lst hj e2
        split at bk
        · rename_i hl
          exact .inr (.inr ⟨p, q, xs, ys, rfl, rfl, h1, h2, by rw [v1.length, v2.length]; exact sz6 hl, fun r hr' => bk.newL hr (v1.append v2) hr'⟩)
        · exact bk.elim
      · exact bk.elim
    | _ => exact bk.elim
  | _ => exact bk.elim
/-- * -/
theorem op_mul_str : OpR X (binaryOp .Mult) (fun x y H Q => ∃ z n, x = .str z ∧ y = .int n ∧ MulOk z n ∧ Q (.str (Txt.mul z n)) H) := by
  intro pins s σ H x y v u Q I rx ry h
  obtain ⟨z, n, rfl, rfl, hok, q⟩ := h
  obtain ⟨t, rfl⟩ := rx
  obtain ⟨t', rfl⟩ := ry
  exact PySem.SB.mul hok fun t' k => ⟨.str _, H, I.tok k, ⟨t', rfl⟩, q⟩
def rMulA : R2 := fun x y H Q => rI CMulX (fun i j => .int (i * j)) x y H Q ∨ (∃ z n, x = .str z ∧ y = .int n ∧ MulOk z n ∧ Q (.str (Txt.mul z n)) H)
theorem op_mulA : OpR X (binaryOp .Mult) rMulA := op_mulX.or op_mul_str
theorem mulOk_of {z : Str} {n : Int} (h1 : n ≤ 1000000) (h2 : -1000000 ≤ n) (h3 : z.length * n.toNat ≤ 1000000) : MulOk z n := by
  refine ⟨?_, fun a b => ?_, fun a b => ?_⟩
  · rw [decide_eq_false (by omega), decide_eq_false (by omega)]; rfl
  · have hz : z.length ≤ 1000000 := Nat.le_trans (Nat.le_mul_of_pos_right _ (by omega)) h3
    have : (2 ^ 63 - 1 : Int) / n ≥ (2 ^ 63 - 1) / 1000000 := by
      have h0 : 0 < n := by omega
      rw [ge_iff_le, Int.le_ediv_iff_mul_le h0]
      have : (2 ^ 63 - 1 : Int) / 1000000 * n ≤ (2 ^ 63 - 1 : Int) / 1000000 * 1000000 := Int.mul_le_mul_of_nonneg_left h1 (by decide)
      exact Int.le_trans this (by decide)
    have h4 : ((2 ^ 63 - 1 : Int)) / 1000000 ≥ 1000000 := by decide
    omega
  · unfold Builtin.Str.tooLong
    simp only [decide_eq_false_iff_not]
    first
      | (show ¬ (z.length * n.toNat > sizeLine); rw [sizeLine_eq]; omega)
      | (rw [decide_eq_false_iff_not, sizeLine_eq]; omega)
      | (simp; omega)
theorem s2_mul : S2 g rMulA dMul := by
  intro H μ h x y a b Q W hr vx vy bk
  cases vx with
  | int i =>
    cases vy with
    | int j =>
      simp only [dMul] at bk
      split at bk
      · rename_i c
        exact .inl ⟨i, j, rfl, rfl, c, bk.val hr (.int _)⟩
      · exact bk.elim
    | _ => exact bk.elim
  | str z =>
    cases vy with
    | int n =>
      simp only [dMul] at bk
      split at bk
      · rename_i c
        exact .inr ⟨z, n, rfl, rfl, mulOk_of c.1 c.2.1 c.2.2, bk.val hr (.str _)⟩
      · exact bk.elim
    | _ => exact bk.elim
  | _ => exact bk.elim
end

/-! ### ==, != -/
def allSome {α : Type} : List (Option α) → Option (List α)
  | [] => some []
  | none :: _ => none
  | some a :: r => (allSome r).map (a :: ·)
def pyOf : Nat → MH → D → Option PyData
  | 0, _, _ => none
  | _ + 1, _, .non => some .none
  | _ + 1, _, .bl b => some (.bool b)
  | _ + 1, _, .int i => some (.int i)
  | _ + 1, _, .str x => some (.str x)
  | n + 1, h, .tup l => (allSome (l.map (pyOf n h))).map .tuple
  | n + 1, h, .ref i => (getL h i).bind fun l => (allSome (l.map (pyOf n h))).map .list
  | _ + 1, _, .xo _ _ _ => none
section
variable {g : G} {X : Cx} {H : Hp} {μ : List Addr} {h : MH}
theorem dp_all {f : D → Option PyData} (hf : ∀ d v e, VR g H μ v d → f d = some e → Dp g.K H v e) : ∀ {xs : List V} {ds : List D} {es : List PyData}, VRs g H μ xs ds → allSome (ds.map f) = some es → DpAll g.K H xs es
  | _, _, _, .nil, e => by
    simp only [List.map_nil, allSome, Option.some.injEq] at e
    subst e
    exact .nil
  | _, _, _, .cons (d := d) a b, e => by
    rw [List.map_cons] at e
    cases q : f d with
    | none => rw [q] at e; simp [allSome] at e
    | some z =>
      rw [q] at e
      simp only [allSome, Option.map_eq_some_iff] at e
      obtain ⟨r, e1, rfl⟩ := e
      exact .cons (hf _ _ _ a q) (dp_all hf b e1)
theorem dp_of (hr : HR g H μ h) : ∀ (n : Nat) (d : D) (v : V) (e : PyData), VR g H μ v d → pyOf n h d = some e → Dp g.K H v e
  | 0, _, _, _, _, q => by cases q
  | n + 1, d, v, e, a, q => by
    cases a with
    | xo _ _ _ _ => cases q
    | non => cases q; exact .non
    | bl b => cases q; exact .bl b
    | int b => cases q; exact .int b
    | str b => cases q; exact .str b
    | tup hs vs =>
      simp only [pyOf, Option.map_eq_some_iff] at q
      obtain ⟨es, q, rfl⟩ := q
      exact .tup hs.sq (dp_all (fun d v e a q => dp_of hr n d v e a q) vs q)
    | ref hi =>
      simp only [pyOf, Option.bind_eq_some_iff, Option.map_eq_some_iff] at q
      obtain ⟨l, q1, es, q2, rfl⟩ := q
      obtain ⟨xs, hs, vs⟩ := hr.list hi q1
      exact .lst hs (dp_all (fun d v e a q => dp_of hr n d v e a q) vs q2)
def scalD : D → D → Bool
  | .non, .non => true | .non, .int _ => true | .int _, .non => true | .non, .bl _ => true | .bl _, .non => true | .non, .str _ => true | .str _, .non => true
  | .int _, .int _ => true | .bl _, .bl _ => true | .str _, .str _ => true
  | .int _, .str _ => true | .str _, .int _ => true | .bl _, .str _ => true | .str _, .bl _ => true
  | _, _ => false
def eqD (a b : D) (h : MH) : Option Bool := if scalD a b = true then some (decide (a = b)) else match pyOf 60 h a, pyOf 60 h b with
  | some d, some e => if SeqAt.shaped d = true ∧ SeqAt.shaped e = true then some (PyData.eqv d e) else none
  | _, _ => none
/-- two dicts without pairs -/
def no2 (a b : D) (h : MH) : Bool := match a, b with
  | .ref i, .ref j => decide (h[i]? = some (.dK [])) && decide (h[j]? = some (.dK []))
  | _, _ => false
/-- two tuples, one without items -/
def emp2 (a b : D) : Option Bool := match a, b with
  | .tup l, .tup m => if l = [] ∨ m = [] then some (decide (l.length = m.length)) else none
  | _, _ => none
def dEq (a b : D) (h : MH) : R D := match eqD a b h with
  | some k => .ok (.bl k) h
  | none => match emp2 a b with
    | some k => .ok (.bl k) h
    | none => if no2 a b h = true then .ok (.bl true) h else .bad
def dNe (a b : D) (h : MH) : R D := match eqD a b h with
  | some k => .ok (.bl (!k)) h
  | none => match emp2 a b with
    | some k => .ok (.bl (!k)) h
    | none => .bad
def rEqE (K : PySem.W.Frag) : R2 := fun x y H Q => ∃ a b xs ys, x = .ref a ∧ y = .ref b ∧ SqT K H a xs ∧ SqT K H b ys ∧ (xs = [] ∨ ys = []) ∧ Q (.bl (decide (xs.length = ys.length))) H
def rNeE (K : PySem.W.Frag) : R2 := fun x y H Q => ∃ a b xs ys, x = .ref a ∧ y = .ref b ∧ SqT K H a xs ∧ SqT K H b ys ∧ (xs = [] ∨ ys = []) ∧ Q (.bl (!decide (xs.length = ys.length))) H
theorem emp_ev {us ws : Array Value} {n m : Nat} (h1 : us.size = n) (h2 : ws.size = m) (h0 : n = 0 ∨ m = 0) : ((List.range (min us.size ws.size)).all (fun _ => true) && us.size == ws.size) = decide (n = m) := by
  subst h1 h2
  have : min us.size ws.size = 0 := by omega
  rw [this]
  simp only [List.range_zero, List.all_nil, Bool.true_and]
  rw [Bool.eq_iff_iff, beq_iff_eq, decide_eq_true_iff]
theorem op_eqE (hu : X.A.units + 64 < cLine) : OpR X (compareOp .Eq) (rEqE X.K) := by
  intro pins s σ H x y v u Q I rx ry hh
  obtain ⟨a, b, xs, ys, rfl, rfl, ha, hb, h0, q⟩ := hh
  cases rx
  cases ry
  obtain ⟨ws1, r1, p1, _⟩ := I.tuple ha
  obtain ⟨ws2, r2, p2, _⟩ := I.tuple hb
  have l1 : ws1.toArray.size = xs.length := by rw [List.size_toArray]; exact r1.length.symm
  have l2 : ws2.toArray.size = ys.length := by rw [List.size_toArray]; exact r2.length.symm
  have h00 : xs.length = 0 ∨ ys.length = 0 := by
    rcases h0 with z | z
    · exact .inl (by rw [z]; rfl)
    · exact .inr (by rw [z]; rfl)
  refine SeqAt.eq_tupleAt (e := fun _ => true) p1 p2 (by omega) (fun j j1 j2 => by omega) ?_
  rw [emp_ev l1 l2 h00]
  exact ⟨.bl _, H, I, rfl, q⟩
theorem op_neE (hu : X.A.units + 64 < cLine) : OpR X (compareOp .NotEq) (rNeE X.K) := by
  intro pins s σ H x y v u Q I rx ry hh
  obtain ⟨a, b, xs, ys, rfl, rfl, ha, hb, h0, q⟩ := hh
  cases rx
  cases ry
  obtain ⟨ws1, r1, p1, _⟩ := I.tuple ha
  obtain ⟨ws2, r2, p2, _⟩ := I.tuple hb
  have l1 : ws1.toArray.size = xs.length := by rw [List.size_toArray]; exact r1.length.symm
  have l2 : ws2.toArray.size = ys.length := by rw [List.size_toArray]; exact r2.length.symm
  have h00 : xs.length = 0 ∨ ys.length = 0 := by
    rcases h0 with z | z
    · exact .inl (by rw [z]; rfl)
    · exact .inr (by rw [z]; rfl)
  refine SeqAt.RcNeAt.tuples (e := fun _ => true) p1 p2 (by omega) (fun j j1 j2 => by omega) _ _ _ _ ?_
  rw [emp_ev l1 l2 h00]
  exact ⟨.bl _, H, I, rfl, q⟩
def rEqA (K : PySem.W.Frag) : R2 := fun x y H Q => rEq x y H Q ∨ (rEqD K x y H Q ∨ (rEqV K x y H Q ∨ rEqE K x y H Q))
def rNeA (K : PySem.W.Frag) : R2 := fun x y H Q => rNe x y H Q ∨ (rNeD K x y H Q ∨ rNeE K x y H Q)
theorem op_eqA (hu : X.A.units + 65 < cLine) : OpR X (compareOp .Eq) (rEqA X.K) := op_eq.or ((op_eqD (by omega)).or ((op_eqV (by omega)).or (op_eqE (by omega))))
theorem op_neA (hu : X.A.units + 65 < cLine) : OpR X (compareOp .NotEq) (rNeA X.K) := op_ne.or ((op_neD (by omega)).or (op_neE (by omega)))
theorem scal_of {x y : V} {a b : D} (vx : VR g H μ x a) (vy : VR g H μ y b) (e : scalD a b = true) : scal x y = true ∧ decide (x = y) = decide (a = b) := by
  cases vx <;> cases vy <;> first | (cases e; done) | (refine ⟨rfl, ?_⟩; simp)
theorem eq_of {x y : V} {a b : D} {k : Bool} (hr : HR g H μ h) (vx : VR g H μ x a) (vy : VR g H μ y b) (e : eqD a b h = some k) :
    (scal x y = true ∧ decide (x = y) = k) ∨ ∃ d e, Dp g.K H x d ∧ Dp g.K H y e ∧ SeqAt.shaped d = true ∧ SeqAt.shaped e = true ∧ PyData.eqv d e = k := by
  unfold eqD at e
  split at e
  · rename_i s
    obtain ⟨h1, h2⟩ := scal_of vx vy s
    cases e
    exact .inl ⟨h1, h2⟩
  · split at e
    · rename_i d e' q1 q2
      split at e
      · rename_i s
        cases e
        exact .inr ⟨d, e', dp_of hr _ _ _ _ vx q1, dp_of hr _ _ _ _ vy q2, s.1, s.2, rfl⟩
      · cases e
    · cases e
theorem s2_eq : S2 g (rEqA g.K) dEq := by
  intro H μ h x y a b Q W hr vx vy bk
  unfold dEq at bk
  split at bk
  · rename_i k e
    rcases eq_of hr vx vy e with ⟨h1, h2⟩ | ⟨d, e, h1, h2, h3, h4, h5⟩
    · exact .inl ⟨h1, by rw [h2]; exact bk.val hr (.bl _)⟩
    · exact .inr (.inl ⟨d, e, h1, h2, h3, h4, by rw [h5]; exact bk.val hr (.bl _)⟩)
  · split at bk
    · rename_i k q
      unfold emp2 at q
      split at q
      · rename_i l m
        split at q
        · rename_i z
          cases q
          cases vx with
          | tup hs vs =>
            cases vy with
            | tup ht ws =>
              refine .inr (.inr (.inr ⟨_, _, _, _, rfl, rfl, hs.sq, ht.sq, ?_, ?_⟩))
              · rcases z with z | z
                · subst z; cases vs; exact .inl rfl
                · subst z; cases ws; exact .inr rfl
              · rw [vs.length, ws.length]; exact bk.val hr (.bl _)
        · cases q
      · cases q
    · split at bk
      · rename_i q
        unfold no2 at q
        split at q
        · rename_i i j
          obtain ⟨q1, q2⟩ := Bool.and_eq_true_iff.mp q
          cases vx with
          | ref hi =>
            cases vy with
            | ref hj =>
              obtain ⟨k1, e1, r1⟩ := hr.ob _ _ _ hi (of_decide_eq_true q1)
              obtain ⟨k2, e2, r2⟩ := hr.ob _ _ _ hj (of_decide_eq_true q2)
              cases r1
              cases r2
              exact .inr (.inr (.inl ⟨1, by decide, .inr ⟨_, _, [], [], rfl, rfl, e1, e2, rfl, fun p hp => by simp at hp⟩, bk.val hr (.bl true)⟩))
        · cases q
      · exact bk.elim
theorem s2_ne : S2 g (rNeA g.K) dNe := by
  intro H μ h x y a b Q W hr vx vy bk
  unfold dNe at bk
  split at bk
  · rename_i k e
    rcases eq_of hr vx vy e with ⟨h1, h2⟩ | ⟨d, e, h1, h2, h3, h4, h5⟩
    · exact .inl ⟨h1, by rw [h2]; exact bk.val hr (.bl _)⟩
    · exact .inr (.inl ⟨d, e, h1, h2, h3, h4, by rw [h5]; exact bk.val hr (.bl _)⟩)
  · split at bk
    · rename_i k q
      unfold emp2 at q
      split at q
      · rename_i l m
        split at q
        · rename_i z
          cases q
          cases vx with
          | tup hs vs =>
            cases vy with
            | tup ht ws =>
              refine .inr (.inr ⟨_, _, _, _, rfl, rfl, hs.sq, ht.sq, ?_, ?_⟩)
              · rcases z with z | z
                · subst z; cases vs; exact .inl rfl
                · subst z; cases ws; exact .inr rfl
              · rw [vs.length, ws.length]; exact bk.val hr (.bl _)
        · cases q
      · cases q
    · exact bk.elim
/-! ### is None -/
def dIsN : D → D → MH → R D
  | a, .non, h => .ok (.bl (decide (a = .non))) h
  | _, _, _ => .bad
def dNotN : D → D → MH → R D
  | a, .non, h => .ok (.bl (!decide (a = .non))) h
  | _, _, _ => .bad
theorem non_of {x : V} {a : D} (vx : VR g H μ x a) : decide (x = .non) = decide (a = .non) := by cases vx <;> simp
theorem s2_isN : S2 g (fun x y H Q => y = .non ∧ Q (.bl (decide (x = .non))) H) dIsN := by
  intro H μ h x y a b Q W hr vx vy bk
  cases vy with
  | non => exact ⟨rfl, by rw [non_of vx]; exact bk.val hr (.bl _)⟩
  | _ => simp only [dIsN] at bk; exact bk.elim
theorem s2_notN : S2 g (fun x y H Q => y = .non ∧ Q (.bl (!decide (x = .non))) H) dNotN := by
  intro H μ h x y a b Q W hr vx vy bk
  cases vy with
  | non => exact ⟨rfl, by rw [non_of vx]; exact bk.val hr (.bl _)⟩
  | _ => simp only [dNotN] at bk; exact bk.elim
/-! ### in -/
def flatD : D → Bool
  | .non => true | .bl _ => true | .int _ => true | .str _ => true | _ => false
def eqF : D → D → Bool
  | .non, .non => true
  | .bl a, .bl b => a == b
  | .bl a, .int b => (if a then 1 else 0) == b
  | .int a, .bl b => a == (if b then 1 else 0)
  | .int a, .int b => a == b
  | .str a, .str b => a == b
  | _, _ => false
def seqOf (h : MH) : D → Option (List D)
  | .tup l => some l
  | .ref i => getL h i
  | _ => none
/-- x in y: a sign in a text, a flat thing in a list or tuple of such, a nested one in a list -/
def inD (a b : D) (h : MH) : Option Bool := match a, b with
  | .str x, .str z => match x.cps.toList with
    | [c] => some (decide (c ∈ z.cps.toList))
    | _ => none
  | a, b => match seqOf h b with
    | some l => if flatD a = true ∧ l.all flatD = true then some (l.any fun y => eqF y a) else match pyOf 60 h a, pyOf 60 h b with
      | some d, some (.list es) => if SeqAt.shaped d = true ∧ SeqAt.shaped (.list es) = true then some (es.any fun z => PyData.eqv z d) else none
      | _, _ => none
    | none => none
def dIn (a b : D) (h : MH) : R D := match inD a b h with
  | some k => .ok (.bl k) h
  | none => .bad
def dNotIn (a b : D) (h : MH) : R D := match inD a b h with
  | some k => .ok (.bl (!k)) h
  | none => .bad
def rInA (K : PySem.W.Frag) : R2 := fun x y H Q => (∃ (c : Nat) (z : Str), x = .str ⟨#[c]⟩ ∧ y = .str z ∧ Q (.bl (decide (c ∈ z.cps.toList))) H) ∨ (rIn K false x y H Q ∨ rInD K x y H Q)
def rNotInA (K : PySem.W.Frag) : R2 := fun x y H Q => (∃ (c : Nat) (z : Str), x = .str ⟨#[c]⟩ ∧ y = .str z ∧ Q (.bl (!decide (c ∈ z.cps.toList))) H) ∨ (rIn K true x y H Q ∨ rNotInD K x y H Q)
theorem op_inA (hu : X.A.units + 65 < cLine) : OpR X (compareOp .In) (rInA X.K) := op_in_sign.or (op_in_seq.or (op_inD hu))
theorem op_notInA (hu : X.A.units + 65 < cLine) : OpR X (compareOp .NotIn) (rNotInA X.K) := op_notIn_sign.or (op_notIn_seq.or (op_notInD hu))
theorem flat_of {x : V} {a : D} (vx : VR g H μ x a) : flatV x = flatD a := by cases vx <;> rfl
theorem flats_of : ∀ {xs : List V} {ds : List D}, VRs g H μ xs ds → xs.all flatV = ds.all flatD
  | _, _, .nil => rfl
  | _, _, .cons a b => by rw [List.all_cons, List.all_cons, flat_of a, flats_of b]
theorem eqF_of {x y : V} {a b : D} (vx : VR g H μ x a) (vy : VR g H μ y b) : eqV x y = eqF a b := by cases vx <;> cases vy <;> rfl
theorem any_of {x : V} {a : D} (vx : VR g H μ x a) : ∀ {xs : List V} {ds : List D}, VRs g H μ xs ds → inV x xs = ds.any fun y => eqF y a
  | _, _, .nil => rfl
  | _, _, .cons c b => by
    show (eqV _ x || inV x _) = _
    rw [List.any_cons, eqF_of c vx, any_of vx b]
theorem HR.seq {p : Addr} {b : D} {l : List D} (hr : HR g H μ h) (vb : VR g H μ (.ref p) b) (e : seqOf h b = some l) : ∃ xs, (SqL g.K H p xs ∨ SqT g.K H p xs) ∧ VRs g H μ xs l := by
  cases vb with
  | ref hi => obtain ⟨xs, h1, h2⟩ := hr.list hi e; exact ⟨xs, .inl h1, h2⟩
  | tup hs vs => cases e; exact ⟨_, .inr hs.sq, vs⟩
  | xo _ _ _ _ => cases e
theorem in_of {x y : V} {a b : D} {k : Bool} (hr : HR g H μ h) (vx : VR g H μ x a) (vy : VR g H μ y b) (e : inD a b h = some k) :
    (∃ (c : Nat) (z : Str), x = .str ⟨#[c]⟩ ∧ y = .str z ∧ decide (c ∈ z.cps.toList) = k) ∨ (∃ p xs, y = .ref p ∧ (SqL g.K H p xs ∨ SqT g.K H p xs) ∧ flatV x = true ∧ xs.all flatV = true ∧ inV x xs = k) ∨
      ∃ d ds, Dp g.K H x d ∧ Dp g.K H y (.list ds) ∧ SeqAt.shaped d = true ∧ SeqAt.shaped (.list ds) = true ∧ (ds.any fun z => PyData.eqv z d) = k := by
  unfold inD at e
  split at e
  · rename_i x' z
    cases vx
    cases vy
    split at e
    · rename_i c q
      cases e
      refine .inl ⟨c, z, ?_, rfl, rfl⟩
      obtain ⟨⟨cs⟩⟩ := x'
      cases q
      rfl
    · cases e
  · split at e
    · rename_i l q
      have hy : ∃ p, y = .ref p := by cases vy <;> first | exact ⟨_, rfl⟩ | cases q
      obtain ⟨p, rfl⟩ := hy
      obtain ⟨xs, h1, h2⟩ := hr.seq vy q
      split at e
      · rename_i c
        cases e
        exact .inr (.inl ⟨p, xs, rfl, h1, by rw [flat_of vx]; exact c.1, by rw [flats_of h2]; exact c.2, any_of vx h2⟩)
      · split at e
        · rename_i d es q1 q2
          split at e
          · rename_i c
            cases e
            exact .inr (.inr ⟨d, es, dp_of hr _ _ _ _ vx q1, dp_of hr _ _ _ _ vy q2, c.1, c.2, rfl⟩)
          · cases e
        · cases e
    · cases e
theorem s2_in : S2 g (rInA g.K) dIn := by
  intro H μ h x y a b Q W hr vx vy bk
  unfold dIn at bk
  split at bk
  · rename_i k e
    rcases in_of hr vx vy e with ⟨c, z, h1, h2, h3⟩ | ⟨p, xs, h1, h2, h3, h4, h5⟩ | ⟨d, e, h1, h2, h3, h4, h5⟩
    · exact .inl ⟨c, z, h1, h2, by rw [h3]; exact bk.val hr (.bl _)⟩
    · exact .inr (.inl ⟨p, xs, h1, h2, h3, h4, by rw [if_neg Bool.false_ne_true, h5]; exact bk.val hr (.bl _)⟩)
    · exact .inr (.inr ⟨d, e, h1, h2, h3, h4, by rw [h5]; exact bk.val hr (.bl _)⟩)
  · exact bk.elim
theorem s2_notIn : S2 g (rNotInA g.K) dNotIn := by
  intro H μ h x y a b Q W hr vx vy bk
  unfold dNotIn at bk
  split at bk
  · rename_i k e
    rcases in_of hr vx vy e with ⟨c, z, h1, h2, h3⟩ | ⟨p, xs, h1, h2, h3, h4, h5⟩ | ⟨d, e, h1, h2, h3, h4, h5⟩
    · exact .inl ⟨c, z, h1, h2, by rw [h3]; exact bk.val hr (.bl _)⟩
    · exact .inr (.inl ⟨p, xs, h1, h2, h3, h4, by rw [if_pos rfl, h5]; exact bk.val hr (.bl _)⟩)
    · exact .inr (.inr ⟨d, e, h1, h2, h3, h4, by rw [h5]; exact bk.val hr (.bl _)⟩)
  · exact bk.elim
/-! ### places -/
def dIx (a b : D) (h : MH) : R D := match b with
  | .int i => match a with
    | .str z => if z.length ≤ 1000000 then match atI z.cps.toList i with
      | some c => .ok (.str ⟨#[c]⟩) h
      | none => .bad else .bad
    | a => match seqOf h a with
      | some l => match atI l i with
        | some d => .ok d h
        | none => .bad
      | none => .bad
  | _ => .bad
theorem atI_of {xs : List V} {ds : List D} {i : Int} {d : D} (vs : VRs g H μ xs ds) (e : atI ds i = some d) : ∃ v, atI xs i = some v ∧ VR g H μ v d := by
  unfold atI at e ⊢
  rw [vs.length]
  cases q : ixN ds.length i with
  | none => rw [q] at e; cases e
  | some j =>
    rw [q] at e
    exact vs.get e
theorem s2_ix : S2 g (rIx g.K) dIx := by
  intro H μ h x y a b Q W hr vx vy bk
  cases vy with
  | int i =>
    cases vx with
    | str z =>
      simp only [dIx] at bk
      split at bk
      · rename_i hz
        split at bk
        · rename_i c e
          exact .inr (.inr ⟨z, i, c, rfl, rfl, sz6 hz, e, bk.val hr (.str _)⟩)
        · exact bk.elim
      · exact bk.elim
    | @tup p xs ds hs vs =>
      simp only [dIx, seqOf] at bk
      split at bk
      · rename_i d e
        obtain ⟨v, h1, h2⟩ := atI_of vs e
        exact .inr (.inl ⟨p, xs, i, v, rfl, rfl, hs.sq, h1, bk.val hr h2⟩)
      · exact bk.elim
    | @ref p j hj =>
      simp only [dIx, seqOf] at bk
      split at bk
      · rename_i l q
        obtain ⟨xs, hs, vs⟩ := hr.list hj q
        split at bk
        · rename_i d e
          obtain ⟨v, h1, h2⟩ := atI_of vs e
          exact .inl ⟨p, xs, i, v, rfl, rfl, hs, h1, bk.val hr h2⟩
        · exact bk.elim
      · exact bk.elim
    | _ => simp only [dIx, seqOf] at bk; exact bk.elim
  | _ => simp only [dIx] at bk; exact bk.elim
end
end Mi
namespace Mi
open PySem L2

/-! ### slices -/
def mNo : MP := fun _ h => .ok none h
def mSome (a : ME) : MP := fun ρ h => (a ρ h).bind fun x h1 => match x with
  | .int i => .ok (some i) h1
  | _ => .bad
def cutD (xs : List D) (lo hi : Option Int) : List D := (xs.drop (HT.sIx xs.length 0 lo)).take (HT.sIx xs.length xs.length hi - HT.sIx xs.length 0 lo)
def dSl (a : D) (lo hi : Option Int) (h : MH) : R D := match a with
  | .str z => if z.length ≤ 1000000 then .ok (.str (cutS z lo hi)) h else .bad
  | .tup l => .ok (.tup (cutD l lo hi)) h
  | .ref i => match getL h i with
    | some l => .ok (.ref h.length) (h ++ [.lst (cutD l lo hi)])
    | none => .bad
  | _ => .bad
def mSl (a : ME) (lo hi : MP) : ME := fun ρ h => (a ρ h).bind fun x h1 => (lo ρ h1).bind fun l h2 => (hi ρ h2).bind fun u h3 => dSl x l u h3
section
variable {X : Cx} {g : G} {W : WX} {a b e : Expr} {ma mb : ME} {pos p2 : Pos} {es : List Expr} {mr : MA} {lo hi : Option Expr} {ml mh : MP}
theorem sp_none : PO X none (tP g W mNo) := ⟨fun pins s σ H Q I ⟨ρ, h, μ, sr, hr, bk⟩ => (po_none (X := X)).run pins s σ H Q I (bk none H μ Mon.refl hr rfl)⟩
theorem sp_some (he : PE X e (tE g W ma)) : PO X (some e) (tP g W (mSome ma)) := ⟨fun pins s σ H Q I ⟨ρ, h, μ, sr, hr, bk⟩ => (po_some he).run pins s σ H Q I (step (rel := VR) (rel' := fun _ => opR) (ma := ma) (Q' := Q) sr hr bk fun x d h1 H1 μ1 m1 sr1 hr1 vx bk1 => by
  cases vx with
  | int i => exact ⟨i, rfl, bk1 _ H1 μ1 Mon.refl hr1 rfl⟩
  | _ => exact bk1.elim)⟩
theorem slR_or {r r' : V → Option Int → Option Int → Hp → VK → Prop} (h : SlR X r) (h' : SlR X r') : SlR X (fun x l u H Q => r x l u H Q ∨ r' x l u H Q) := by
  intro pins s σ H x v vl vu lo hi sl Q I rx hs pl pu q
  rcases q with q | q
  · exact h pins s σ H x v vl vu lo hi sl Q I rx hs pl pu q
  · exact h' pins s σ H x v vl vu lo hi sl Q I rx hs pl pu q
theorem cut_of {H : Hp} {μ : List Addr} {xs : List V} {ds : List D} (vs : VRs g H μ xs ds) (l u : Option Int) : VRs g H μ (cutV xs l u) (cutD ds l u) := by
  unfold cutV cutD
  rw [vs.length]
  exact (vs.drop _).take _
theorem cut_whole {ds : List D} {l u : Option Int} (h : HT.sIx ds.length 0 l = 0 ∧ HT.sIx ds.length ds.length u = ds.length) : cutD ds l u = ds := by
  unfold cutD
  rw [h.1, h.2]
  simp
theorem se_slice (he : PE X a (tE g W ma)) (hl : PO X lo (tP g W ml)) (hu : PO X hi (tP g W mh)) (hK : X.K = g.K := by rfl) : PE X (.Subscript a (.Slice lo hi none p2) pos) (tE g W (mSl ma ml mh)) :=
  pe_mono (pe_slice (slR_or sl_str (slR_or sl_tupF sl_list)) he hl hu) fun σ H Q ⟨ρ, h, μ, sr, hr, bk⟩ =>
    step (rel := VR) (rel' := VR) (ma := ma) (Q' := Q) sr hr bk fun x d h1 H1 μ1 m1 sr1 hr1 vx bk1 =>
      step (rel := fun _ => opR) (rel' := VR) (ma := ml) (Q' := Q) sr1 hr1 bk1 fun l l' h2 H2 μ2 m2 sr2 hr2 vl bk2 =>
        step (rel := fun _ => opR) (rel' := VR) (ma := mh) (Q' := Q) sr2 hr2 bk2 fun u u' h3 H3 μ3 m3 sr3 hr3 vu bk3 => by
          cases vl
          cases vu
          have vx3 := (vx.mono m2).mono m3
          rw [hK]
          cases vx3 with
          | str z =>
            simp only [dSl] at bk3
            split at bk3
            · rename_i hz
              exact .inl ⟨z, rfl, sz6 hz, bk3.val hr3 (.str _)⟩
            · exact bk3.elim
          | @tup p xs ds hs vs =>
            refine .inr (.inl ⟨p, xs, rfl, hs.sq, fun w => ?_, fun _ p ob hp ho => bk3.newT hr3 (cut_of vs _ _) hp ho⟩)
            rw [vs.length] at w
            rw [dSl, cut_whole w] at bk3
            exact bk3.val hr3 (.tup hs vs)
          | @ref p i hi =>
            simp only [dSl] at bk3
            split at bk3
            · rename_i l q
              obtain ⟨xs, hs, vs⟩ := hr3.list hi q
              exact .inr (.inr ⟨p, xs, rfl, hs, fun p hp => bk3.newL hr3 (cut_of vs _ _) hp⟩)
            · exact bk3.elim
          | _ => exact bk3.elim
end

/-! ### built-ins by values -/
def dLen : List D → MH → R D
  | [.str z], h => if z.length ≤ 1000000 then .ok (.int z.length) h else .bad
  | [.tup l], h => .ok (.int l.length) h
  | [.ref i], h => match getL h i with
    | some l => .ok (.int l.length) h
    | none => .bad
  | _, _ => .bad
def dAbs : List D → MH → R D
  | [.int i], h => .ok (.int (if i < 0 then -i else i)) h
  | _, _ => .bad
def dMax : List D → MH → R D
  | [.int i, .int j], h => .ok (.int (if j > i then j else i)) h
  | _, _ => .bad
def dMin : List D → MH → R D
  | [.int i, .int j], h => .ok (.int (if j < i then j else i)) h
  | _, _ => .bad
def dInt : List D → MH → R D
  | [.int i], h => .ok (.int i) h
  | [.bl b], h => .ok (.int (if b then 1 else 0)) h
  | _, _ => .bad
def dStr : List D → MH → R D
  | [.int i], h => if i.natAbs.log2 < 1920 then .ok (.str (toString i : String)) h else .bad
  | _, _ => .bad
def dList : List D → MH → R D
  | [a], h => match seqOf h a with
    | some l => .ok (.ref h.length) (h ++ [.lst l])
    | none => .bad
  | _, _ => .bad
def dTuple : List D → MH → R D
  | [a], h => match seqOf h a with
    | some l => .ok (.tup l) h
    | none => .bad
  | _, _ => .bad
def allBl : List D → Option (List Bool)
  | [] => some []
  | .bl b :: r => (allBl r).map (b :: ·)
  | _ => none
def dAny : List D → MH → R D
  | [.ref i], h => match (getL h i).bind allBl with
    | some bs => .ok (.bl (bs.any id)) h
    | none => .bad
  | _, _ => .bad
def dAll : List D → MH → R D
  | [.ref i], h => match (getL h i).bind allBl with
    | some bs => .ok (.bl (bs.all id)) h
    | none => .bad
  | _, _ => .bad
section
variable {g : G} {X : Cx}
theorem sn1 {r : List V → Hp → VK → Prop} {f : List D → MH → R D} (h1 : ∀ H μ h x a Q W, HR g H μ h → VR g H μ x a → Bk (VR g) g H μ (f [a] h) Q W → r [x] H Q) (h0 : ∀ h, f [] h = .bad) (h2 : ∀ a b l h, f (a :: b :: l) h = .bad) : SN g r f := by
  intro H μ h xs ds Q W hr vs bk
  cases vs with
  | nil => rw [h0] at bk; exact bk.elim
  | cons va t =>
    cases t with
    | nil => exact h1 H μ h _ _ Q W hr va bk
    | cons vb t => rw [h2] at bk; exact bk.elim
theorem sn_len : SN g (fun xs H Q => ∃ x n, xs = [x] ∧ LenV g.K x H n ∧ Q (.int n) H) dLen := sn1 (fun H μ h x a Q W hr va bk => by
  cases va with
  | str z =>
    simp only [dLen] at bk
    split at bk
    · rename_i hz; exact ⟨_, _, rfl, ⟨sz6 hz, rfl⟩, bk.val hr (.int _)⟩
    · exact bk.elim
  | @tup p xs ds hs vs => exact ⟨_, _, rfl, .inr ⟨xs, hs.sq, rfl⟩, by rw [vs.length]; exact bk.val hr (.int _)⟩
  | @ref p i hi =>
    simp only [dLen] at bk
    split at bk
    · rename_i l q
      obtain ⟨xs, hs, vs⟩ := hr.list hi q
      exact ⟨_, _, rfl, .inl ⟨xs, hs, rfl⟩, by rw [vs.length]; exact bk.val hr (.int _)⟩
    · exact bk.elim
  | _ => exact bk.elim) (fun _ => rfl) (fun a b l h => by simp [dLen])
theorem sn_int : SN g (fun xs H Q => (∃ i, xs = [.int i] ∧ Q (.int i) H) ∨ ∃ k, xs = [.bl k] ∧ Q (.int (if k then 1 else 0)) H) dInt := sn1 (fun H μ h x a Q W hr va bk => by
  cases va with
  | int i => exact .inl ⟨i, rfl, bk.val hr (.int _)⟩
  | bl b => exact .inr ⟨b, rfl, bk.val hr (.int _)⟩
  | _ => exact bk.elim) (fun _ => rfl) (fun a b l h => by simp [dInt])
theorem sn_list : SN g (fun xs H Q => ∃ p ys, xs = [.ref p] ∧ (SqL g.K H p ys ∨ SqT g.K H p ys) ∧ ∀ l, H l = none → Q (.ref l) (upd H l (.lst ys))) dList := sn1 (fun H μ h x a Q W hr va bk => by
  simp only [dList] at bk
  split at bk
  · rename_i l q
    have hy : ∃ p, x = .ref p := by cases va <;> first | exact ⟨_, rfl⟩ | cases q
    obtain ⟨p, rfl⟩ := hy
    obtain ⟨xs, h1, h2⟩ := hr.seq va q
    exact ⟨p, xs, rfl, h1, fun l hl => bk.newL hr h2 hl⟩
  · exact bk.elim) (fun _ => rfl) (fun a b l h => by simp [dList])
theorem sn_tuple : SN g (rTupF g.K) dTuple := sn1 (fun H μ h x a Q W hr va bk => by
  cases va with
  | @tup p xs ds hs vs => exact ⟨p, xs, rfl, .inr ⟨hs.sq, bk.val hr (.tup hs vs)⟩⟩
  | @ref p i hi =>
    simp only [dTuple, seqOf] at bk
    split at bk
    · rename_i l q
      obtain ⟨xs, hs, vs⟩ := hr.list hi q
      exact ⟨p, xs, rfl, .inl ⟨hs, fun l ob hl ho => bk.newT hr vs hl ho⟩⟩
    · exact bk.elim
  | _ => simp only [dTuple, seqOf] at bk; exact bk.elim) (fun _ => rfl) (fun a b l h => by simp [dTuple])
end

/-! ### isinstance against built-in types -/
def tyName (h : MH) : D → Option String
  | .non => some "NoneType" | .bl _ => some "bool" | .int _ => some "int" | .str _ => some "str" | .tup _ => some "tuple"
  | .ref i => match h[i]? with
    | some (.lst _) => some "list"
    | some (.rol _) => some "list"
    | some (.dK _) => some "dict"
    | _ => none
  | .xo _ _ _ => none
def mIsi (T : String) (a : ME) : ME := fun ρ h => (a ρ h).bind fun x h1 => match (tyName h1 x).bind fun n => kitB n T with
  | some b => .ok (.bl b) h1
  | none => .bad
section
variable {X : Cx} {g : G} {W : WX} {a : Expr} {ma : ME} {pos : Pos}
theorem HR.ty {H : Hp} {μ : List Addr} {h : MH} {x : V} {d : D} {n : String} (hr : HR g H μ h) (vx : VR g H μ x d) (e : tyName h d = some n) : TyX g.K H x (.type n) := by
  cases vx with
  | xo _ _ _ _ => cases e
  | non => cases e; exact .base .non
  | bl b => cases e; exact .base (.bl b)
  | int i => cases e; exact .base (.int i)
  | str z => cases e; exact .base (.str z)
  | tup hs vs =>
    cases e
    rcases hs with ⟨o, _, hs⟩ | ⟨o, its, k, h1, h2, h3⟩
    · exact .fTuple hs
    · exact .kTuple h1 h2
  | ref hi =>
    simp only [tyName] at e
    split at e
    · rename_i l q
      cases e
      obtain ⟨xs, h1, _⟩ := hr.ob _ _ _ hi q
      exact .base (.lst h1)
    · rename_i l q
      cases e
      obtain ⟨xs, h1, _⟩ := hr.ob _ _ _ hi q
      rcases h1 with ⟨o, h1⟩ | ⟨o, its, k, h1, h2, h3⟩
      · exact .base (.frz h1)
      · exact .kList h1 h2
    · rename_i l q
      cases e
      obtain ⟨xs, h1, _⟩ := hr.ob _ _ _ hi q
      exact .base (.dK h1)
    · cases e
theorem se_isi {T : Str} {n : String} {p p2 : Pos} (ha : PE X a (tE g W ma)) (hm : X.mg "isinstance" = none) (hmT : X.mg T = none) (hvT : bootBuiltins T = some (.type n)) (hnT : T ≠ "__name__" := by decide) (hdT : (T == ("__debug__" : Str)) = false := by decide) (hg : Gl X "isinstance" := by rfl) (hgT : Gl X T := by rfl)
    (hK : X.K = g.K := by rfl)
    (s1 : starEach [a, .Name T p2] X.env = (false, eval a X.env) :: starEach [.Name T p2] X.env := by rfl) (s2 : starEach [.Name T p2] X.env = (false, eval (.Name T p2) X.env) :: starEach [] X.env := by rfl)
    (hpl : (backTo pos (starEach [.Name T p2] X.env)).any (·.1) = false := by rfl) : PE X (.Call (.Name "isinstance" p) [a, .Name T p2] [] pos) (tE g W (mIsi n ma)) :=
  pe_mono (pe_callB call_isi hg hm (by decide +kernel) (pa_cons ha (pa_cons (pe_bltn (v := .ty n) hgT hmT hvT rfl hnT hdT) pa_nil s2) s1) (by decide) (by decide) s1 hpl) fun σ H Q ⟨ρ, h, μ, sr, hr, bk⟩ =>
    step (rel := VR) (rel' := VR) (ma := ma) (Q' := Q) sr hr bk fun x d h1 H1 μ1 m1 sr1 hr1 vx bk1 => by
      split at bk1
      · rename_i b q
        obtain ⟨t, q1, q2⟩ := Option.bind_eq_some_iff.mp q
        refine ⟨x, .ty n, .type t, .type n, b, rfl, .ty n, ?_, kit_ty q2, bk1.val hr1 (.bl b)⟩
        rw [hK]
        exact hr1.ty vx q1
      · exact bk1.elim
end

/-! ### methods of built-in types -/
section
variable {X : Cx} {g : G} {W : WX} {o e : Expr} {mo : ME} {es : List Expr} {mr : MA} {name : Str} {apos cpos : Pos} {T id : String} {r : V → List V → Hp → VK → Prop} {f : D → List D → MH → R D} {ty : D → MH → Bool}
/-- how the type is seen -/
def STy (g : G) (T : String) (ty : D → MH → Bool) : Prop := ∀ (H : Hp) (μ : List Addr) (h : MH) (x : V) (a : D), HR g H μ h → VR g H μ x a → ty a h = true → tyV g.K T x H
theorem sty_list : STy g "list" isListD := fun H μ h x a hr va e => by
  cases va with
  | ref hi =>
    obtain ⟨l, q⟩ := Option.isSome_iff_exists.mp e
    obtain ⟨xs, hs, _⟩ := hr.list hi q
    exact .inl ⟨rfl, xs, hs⟩
  | _ => cases e
theorem sty_str : STy g "str" isStrD := fun H μ h x a hr va e => by
  cases va with
  | str z => exact (rfl : "str" = "str")
  | _ => cases e
theorem se_bm (pa : PlainAttrs T) (slot : Slot T name id) (hty : typeOf (.builtin id) = pure (.type "method_descriptor")) (hm : MtR X id r) (st : STy g T ty) (hs : SM g r f) (ho : PE X o (tE g W mo)) (ha : PA X (e :: es) (tA g W mr)) (hK : X.K = g.K := by rfl)
    (hbase : attributeBase o name X.env (eval o X.env) = eval o X.env := by rfl)
    (hfew : ((backTo cpos (starEach (e :: es) X.env)).all (fun x => !x.1) && (backToKw cpos (keywordEach [] X.env)).all (fun x => x.1.isSome)
      && decide ((e :: es).length + ([] : List Keyword).length + (if ([] : List Keyword).isEmpty then 0 else 1) < 30)) = true := by rfl)
    (hline : (apos.endLine == cpos.line) = true := by rfl) (hse : starEach (e :: es) X.env = (false, eval e X.env) :: starEach es X.env := by rfl) (hplain : (backTo cpos (starEach es X.env)).any (·.1) = false := by rfl) :
    PE X (.Call (.Attribute o name apos) (e :: es) [] cpos) (tE g W (mMeth ty f mo mr)) :=
  pe_mono (pe_bm pa slot hty hm ho ha hbase hfew hline hse hplain) fun σ H Q ⟨ρ, h, μ, sr, hr, bk⟩ =>
    step (rel := VR) (rel' := VR) (ma := mo) (Q' := Q) sr hr bk fun x d h1 H1 μ1 m1 sr1 hr1 vx bk1 => by
      split at bk1
      · rename_i ht
        refine ⟨by rw [hK]; exact st H1 μ1 h1 x d hr1 vx ht, ?_⟩
        exact step (rel := VRs) (rel' := VR) (ma := mr) (Q' := Q) sr1 hr1 bk1 fun xs ds h2 H2 μ2 m2 sr2 hr2 vs bk2 => hs H2 μ2 h2 x xs d ds Q _ hr2 (vx.mono m2) vs bk2
      · exact bk1.elim
theorem se_bm0 (pa : PlainAttrs T) (slot : Slot T name id) (hty : typeOf (.builtin id) = pure (.type "method_descriptor")) (hm : MtR X id r) (st : STy g T ty) (hs : SM g r f) (ho : PE X o (tE g W mo)) (hK : X.K = g.K := by rfl)
    (hbase : attributeBase o name X.env (eval o X.env) = eval o X.env := by rfl) (hline : (apos.endLine == cpos.line) = true := by rfl) : PE X (.Call (.Attribute o name apos) [] [] cpos) (tE g W (mMeth ty f mo mNil)) :=
  pe_mono (pe_bm0 pa slot hty hm ho hbase hline) fun σ H Q ⟨ρ, h, μ, sr, hr, bk⟩ =>
    step (rel := VR) (rel' := VR) (ma := mo) (Q' := Q) sr hr bk fun x d h1 H1 μ1 m1 sr1 hr1 vx bk1 => by
      split at bk1
      · rename_i ht
        exact ⟨by rw [hK]; exact st H1 μ1 h1 x d hr1 vx ht, hs H1 μ1 h1 x [] d [] Q _ hr1 vx .nil bk1⟩
      · exact bk1.elim
def dAppend : D → List D → MH → R D
  | .ref i, [d], h => match h[i]? with
    | some (.lst l) => if l.length < 1000000 then .ok .non (h.set i (.lst (l ++ [d]))) else .bad
    | _ => .bad
  | _, _, _ => .bad
theorem sm_append : SM g rAppend dAppend := by
  intro H μ h x xs a ds Q W hr va vs bk
  unfold dAppend at bk
  split at bk
  · rename_i i d
    cases va with
    | @ref p _ hi =>
      cases vs with
      | cons vd t =>
        cases t
        split at bk
        · rename_i l q
          split at bk
          · rename_i hl
            obtain ⟨ys, h1, h2⟩ := hr.lst hi q
            exact ⟨p, ys, _, rfl, rfl, h1, by rw [h2.length]; exact sz6' hl, bk.setL hr hi q h1 (h2.append (.one vd)) .non⟩
          · exact bk.elim
        · exact bk.elim
  · exact bk.elim
def dExtend : D → List D → MH → R D
  | .ref i, [.ref j], h => match h[i]?, h[j]? with
    | some (.lst l), some (.lst m) => if l.length + m.length ≤ 1000000 then .ok .non (h.set i (.lst (l ++ m))) else .bad
    | _, _ => .bad
  | _, _, _ => .bad
def dPop : D → List D → MH → R D
  | .ref i, [], h => match h[i]? with
    | some (.lst l) => match l[l.length - 1]? with
      | some d => .ok d (h.set i (.lst l.dropLast))
      | none => .bad
    | _ => .bad
  | _, _, _ => .bad
theorem sm_pop : SM g rPop dPop := by
  intro H μ h x xs a ds Q W hr va vs bk
  unfold dPop at bk
  split at bk
  · rename_i i
    cases va with
    | @ref p _ hi =>
      cases vs
      split at bk
      · rename_i l q
        split at bk
        · rename_i d e
          obtain ⟨ys, h1, h2⟩ := hr.lst hi q
          rw [← h2.length] at e
          obtain ⟨v, e1, e2⟩ := h2.get e
          exact ⟨p, ys, v, rfl, rfl, h1, e1, bk.setL hr hi q h1 h2.dropLast e2⟩
        · exact bk.elim
      · exact bk.elim
  · exact bk.elim
def allStr : List D → Option (List Str)
  | [] => some []
  | .str b :: r => (allStr r).map (b :: ·)
  | _ => none
theorem strs_of {H : Hp} {μ : List Addr} : ∀ {xs : List V} {ds : List D} {bs : List Str}, VRs g H μ xs ds → allStr ds = some bs → xs = bs.map V.str
  | _, _, _, .nil, e => by cases e; rfl
  | _, _, _, .cons (d := d) a b, e => by
    cases a with
    | str k =>
      simp only [allStr, Option.map_eq_some_iff] at e
      obtain ⟨r, e, rfl⟩ := e
      rw [strs_of b e]; rfl
    | _ => cases e
def dJoin : D → List D → MH → R D
  | .str a, [b], h => match (seqOf h b).bind allStr with
    | some ys => if (ys.map (·.length)).sum + ys.length * a.length ≤ 1000000 then .ok (.str (Txt.join a ys)) h else .bad
    | none => .bad
  | _, _, _ => .bad
theorem sm_join : SM g (fun x xs H Q => ∃ a p, ∃ ys : List Str, x = .str a ∧ xs = [.ref p] ∧ (SqL g.K H p (ys.map V.str) ∨ SqT g.K H p (ys.map V.str)) ∧ (ys.map (·.length)).sum + ys.length * a.length ≤ 16777216 ∧ Q (.str (Txt.join a ys)) H) dJoin := by
  intro H μ h x xs a ds Q W hr va vs bk
  unfold dJoin at bk
  split at bk
  · rename_i z b
    cases va
    cases vs with
    | @cons v _ _ _ vd t =>
      cases t
      split at bk
      · rename_i ys q
        obtain ⟨l, q1, q2⟩ := Option.bind_eq_some_iff.mp q
        have hy : ∃ p, v = .ref p := by cases vd <;> first | exact ⟨_, rfl⟩ | cases q1
        obtain ⟨p, rfl⟩ := hy
        obtain ⟨zs, h1, h2⟩ := hr.seq vd q1
        split at bk
        · rename_i c
          refine ⟨z, p, ys, rfl, rfl, ?_, by omega, bk.val hr (.str _)⟩
          rw [← strs_of h2 q2]
          exact h1
        · exact bk.elim
      · exact bk.elim
  · exact bk.elim
end
end Mi
namespace Mi
open PySem L2

/-! ### targets -/
abbrev MG := D → Slots → Option Slots
abbrev Rl := G → Hp → List Addr → V → D → Prop
/-- a pair that a walk has just laid: its items alone are known -/
def SV : Rl := fun g H μ v d => ∃ p xs ds, v = .ref p ∧ d = .tup ds ∧ SqT g.K H p xs ∧ VRs g H μ xs ds
def tGr (rl : Rl) (g : G) (m : MG) : TG := fun v σ H Q => ∃ ρ h μ d, SR g H μ σ ρ ∧ HR g H μ h ∧ rl g H μ v d ∧ match m d ρ with
  | some ρ' => ∀ σ', SR g H μ σ' ρ' → Q σ' H
  | none => False
abbrev tG (g : G) (m : MG) : TG := tGr VR g m
abbrev MGs := List D → Slots → Option Slots
def tGs (g : G) (m : MGs) : TGs := fun vs σ H Q => ∃ ρ h μ ds, SR g H μ σ ρ ∧ HR g H μ h ∧ VRs g H μ vs ds ∧ match m ds ρ with
  | some ρ' => ∀ σ', SR g H μ σ' ρ' → Q σ' H
  | none => False
def mgName (i : Nat) : MG := fun d ρ => some (ρ.set i (some d))
def mgNil : MGs := fun ds ρ => match ds with
  | [] => some ρ
  | _ => none
def mgCons (a : MG) (r : MGs) : MGs := fun ds ρ => match ds with
  | d :: ds => (a d ρ).bind fun ρ' => r ds ρ'
  | [] => none
def mgTup (r : MGs) : MG := fun d ρ => match d with
  | .tup ds => r ds ρ
  | _ => none
section
variable {X : Cx} {g : G} {pos : Pos}
theorem pg_mono {tg : Expr} {t t' : TG} (h : PG X tg t) (hm : ∀ v σ H Q, t' v σ H Q → t v σ H Q) : PG X tg t' := ⟨fun pins s σ H v u Q I r q => h.run pins s σ H v u Q I r (hm v σ H Q q)⟩
theorem pgs_mono {tg : List Expr} {t t' : TGs} (h : PGs X tg t) (hm : ∀ v σ H Q, t' v σ H Q → t v σ H Q) : PGs X tg t' := ⟨fun pins s σ H v u Q I r q => h.run pins s σ H v u Q I r (hm v σ H Q q)⟩
theorem sg_name {i : Nat} {x : Str} (hN : X.N.Nodup) (hi : X.N[i]? = some x := by rfl) (hx : Loc X.env.scope x := by first | exact Or.inl rfl | exact Or.inr rfl) (hf : X.fn x = true ∨ X.env.scope.names.lookup x = some .local := by first | exact .inl rfl | exact .inr rfl | assumption) : PG X (.Name x pos) (tG g (mgName i)) :=
  pg_mono (pg_name hN hi hx hf) fun v σ H Q ⟨ρ, h, μ, d, sr, hr, vd, q⟩ => q _ (sr.set i vd)
theorem sgs_nil : PGs X [] (tGs g mgNil) := pgs_mono pgs_nil fun vs σ H Q ⟨ρ, h, μ, ds, sr, hr, vd, q⟩ => by
  cases vd with
  | nil => exact ⟨rfl, q σ sr⟩
  | cons a b => exact q.elim
theorem sgs_cons {e : Expr} {es : List Expr} {t : MG} {u : MGs} (h1 : PG X e (tG g t)) (h2 : PGs X es (tGs g u))
    (hs : (assignEach (e :: es) X.env).map (·.2) = assign e X.env :: (assignEach es X.env).map (·.2) := by rfl) : PGs X (e :: es) (tGs g (mgCons t u)) :=
  pgs_mono (pgs_cons h1 h2 hs) fun vs σ H Q ⟨ρ, h, μ, ds, sr, hr, vd, q⟩ => by
    cases vd with
    | nil => exact q.elim
    | @cons v d vs ds a b =>
      refine ⟨v, vs, rfl, ρ, h, μ, d, sr, hr, a, ?_⟩
      simp only [mgCons] at q
      cases e : t d ρ with
      | none => rw [e] at q; exact q
      | some ρ' =>
        rw [e] at q
        exact fun σ' sr' => ⟨ρ', h, μ, ds, sr', hr, b, q⟩
/-- how many places a target has -/
def MGs.many (n : Nat) (m : MGs) : Prop := ∀ ds ρ ρ', m ds ρ = some ρ' → ds.length = n
theorem many_nil : MGs.many 0 mgNil := fun ds ρ ρ' e => by
  cases ds with
  | nil => rfl
  | cons _ _ => cases e
theorem many_cons {n : Nat} {a : MG} {r : MGs} (h : r.many n) : MGs.many (n + 1) (mgCons a r) := fun ds ρ ρ' e => by
  cases ds with
  | nil => cases e
  | cons d ds =>
    simp only [mgCons] at e
    obtain ⟨ρ1, _, e⟩ := Option.bind_eq_some_iff.mp e
    rw [List.length_cons, h ds _ _ e]
theorem sg_tup {es : List Expr} {k : Nat} {m : MGs} {n : Nat} (h : PGs X es (tGs g m)) (hm : m.many n) (hc : X.calm = true := by rfl) (hK : X.K = g.K := by rfl)
    (hn : (assignEach es X.env).length = n := by rfl) (hst : (assignEach es X.env).findIdx? (·.1) = none := by rfl) : PG X (.Tuple es k pos) (tG g (mgTup m)) :=
  pg_mono (pg_tup hc h hn hst) fun v σ H Q ⟨ρ, h, μ, d, sr, hr, vd, q⟩ => by
    cases vd with
    | @tup p xs ds hs vs =>
      simp only [mgTup] at q
      refine ⟨p, xs, rfl, by rw [hK]; exact hs.sq, ?_, ρ, h, μ, ds, sr, hr, vs, q⟩
      cases e : m ds ρ with
      | none => rw [e] at q; exact q.elim
      | some ρ' => rw [vs.length]; exact hm _ _ _ e
    | _ => exact q.elim
end

/-! ### what is walked -/
def JRr (rl : Rl) (g : G) (H0 : Hp) (μ0 : List Addr) (J : It) (a : List D × (MH → Bool)) : Prop := ∀ (i : Nat) (H : Hp) (μ : List Addr) (h : MH), Mon g H0 H μ0 μ → HR g H μ h → a.2 h = true →
  (i < a.1.length → J.go i H ∧ ∀ x H', J.yld i H x H' → ∃ d, a.1[i]? = some d ∧ Mon g H H' μ μ ∧ HR g H' μ h ∧ rl g H' μ x d) ∧ (a.1.length ≤ i → J.stop i H)
abbrev JR := JRr VR
abbrev MI := Slots → MH → R (List D × (MH → Bool))
abbrev tIr (rl : Rl) (g : G) (W : WX) (m : MI) : TI := tX (JRr rl) g W m
abbrev tI (g : G) (W : WX) (m : MI) : TI := tIr VR g W m
def yes : MH → Bool := fun _ => true
/-- the items of a list (as it stands), a tuple, a text -/
def itemsOf (a : D) (h : MH) : Option (List D × (MH → Bool)) := match a with
  | .tup l => some (l, yes)
  | .ref i => (getL h i).map fun l => (l, fun h' => decide (getL h' i = some l))
  | .str z => some (z.cps.toList.map fun c => .str ⟨#[c]⟩, yes)
  | _ => none
def mIter (a : ME) : MI := fun ρ h => (a ρ h).bind fun x h1 => match itemsOf x h1 with
  | some r => .ok r h1
  | none => .bad
def rangeD (i : Int) (n : Nat) : List D := (List.range n).map fun (k : Nat) => D.int (i + (k : Int))
def revRangeD (i : Int) (n : Nat) : List D := (List.range n).map fun (k : Nat) => D.int (i + (n : Int) - 1 - (k : Int))
def lim62 (i : Int) : Bool := decide (-(2 ^ 62) ≤ i) && decide (i < 2 ^ 62)
def dR1 (f : Int → Nat → List D) (x : D) (h : MH) : R (List D × (MH → Bool)) := match x with
  | .int j => if lim62 j = true then .ok (f 0 j.toNat, yes) h else .bad
  | _ => .bad
def dR2 (f : Int → Nat → List D) (x y : D) (h : MH) : R (List D × (MH → Bool)) := match x, y with
  | .int i, .int j => if lim62 i = true ∧ lim62 j = true then .ok (f i (j - i).toNat, yes) h else .bad
  | _, _ => .bad
def mRange1 (a : ME) : MI := fun ρ h => (a ρ h).bind fun x h1 => dR1 rangeD x h1
def mRange2 (a b : ME) : MI := fun ρ h => (a ρ h).bind fun x h1 => (b ρ h1).bind fun y h2 => dR2 rangeD x y h2
def mRev1 (a : ME) : MI := fun ρ h => (a ρ h).bind fun x h1 => dR1 revRangeD x h1
def mRev2 (a b : ME) : MI := fun ρ h => (a ρ h).bind fun x h1 => (b ρ h1).bind fun y h2 => dR2 revRangeD x y h2
section
variable {X : Cx} {g : G} {W : WX} {a b e : Expr} {ma mb : ME} {pos : Pos} {tg : Expr}
theorem pi_mono {t t' : TI} (h : PI X tg e t) (hm : ∀ σ H R, t' σ H R → t σ H R) : PI X tg e t' := ⟨fun pins s σ H R I q => h.run pins s σ H R I (hm σ H R q)⟩
theorem pi_or2 {t u : TI} (h : PI X tg e t) (h' : PI X tg e u) : PI X tg e (fun σ H R => t σ H R ∨ u σ H R) := ⟨fun pins s σ H R I q => by
  rcases q with q | q
  · exact h.run pins s σ H R I q
  · exact h'.run pins s σ H R I q⟩
theorem jr_list {H0 : Hp} {μ0 : List Addr} {p : Addr} {i : Nat} {l : List D} (hi : μ0[i]? = some p) : JR g H0 μ0 (Itl g.K p) (l, fun h' => decide (getL h' i = some l)) := fun k H μ h m hr gd => by
  have q : getL h i = some l := of_decide_eq_true gd
  obtain ⟨xs, hs, vs⟩ := hr.list (m.ix hi) q
  refine ⟨fun lt => ?_, fun le => ⟨xs, hs, by rw [vs.length]; exact le⟩⟩
  have hx : l[k]? = some l[k] := List.getElem?_eq_getElem lt
  obtain ⟨v, h1, h2⟩ := vs.get hx
  refine ⟨⟨xs, v, hs, h1⟩, fun x H' y => ?_⟩
  obtain ⟨e, y⟩ := y
  subst e
  have := y xs hs
  rw [h1] at this
  cases this
  exact ⟨_, hx, Mon.refl, hr, h2⟩
theorem jr_tup {H0 : Hp} {μ0 : List Addr} {p : Addr} {xs : List V} {l : List D} (hs : Tk g.K H0 p xs) (vs : VRs g H0 μ0 xs l) : JR g H0 μ0 (Itt g.K p) (l, yes) := fun k H μ h m hr _ => by
  have hs := (m.tups _ _ hs).sq
  have vs := vs.mono m
  refine ⟨fun lt => ?_, fun le => ⟨xs, hs, by rw [vs.length]; exact le⟩⟩
  have hx : l[k]? = some l[k] := List.getElem?_eq_getElem lt
  obtain ⟨v, h1, h2⟩ := vs.get hx
  refine ⟨⟨xs, v, hs, h1⟩, fun x H' y => ?_⟩
  obtain ⟨e, y⟩ := y
  subst e
  have := y xs hs
  rw [h1] at this
  cases this
  exact ⟨_, hx, Mon.refl, hr, h2⟩
theorem jr_str {H0 : Hp} {μ0 : List Addr} {z : Str} : JR g H0 μ0 (Its z) (z.cps.toList.map fun c => .str ⟨#[c]⟩, yes) := fun k H μ h m hr _ => by
  refine ⟨fun lt => ?_, fun le => ?_⟩
  · have lt' : k < z.cps.size := by simpa using lt
    refine ⟨lt', fun x H' y => ?_⟩
    obtain ⟨e, c, hc, ex⟩ := y
    subst e ex
    refine ⟨.str ⟨#[c]⟩, ?_, Mon.refl, hr, .str _⟩
    rw [List.getElem?_map, Array.getElem?_toList, hc]
    rfl
  · have : z.cps.size ≤ k := by simpa using le
    exact this
theorem jr_range {H0 : Hp} {μ0 : List Addr} {lo : Int} {n : Nat} : JR g H0 μ0 (Itr lo n) (rangeD lo n, yes) := fun k H μ h m hr _ => by
  refine ⟨fun lt => ?_, fun le => ?_⟩
  · have lt' : k < n := by simpa [rangeD] using lt
    refine ⟨lt', fun x H' y => ?_⟩
    obtain ⟨e, ex⟩ := y
    subst e ex
    refine ⟨.int (lo + (k : Int)), ?_, Mon.refl, hr, .int _⟩
    simp [rangeD, lt']
  · have : n ≤ k := by simpa [rangeD] using le
    exact this
theorem si_iter (he : PE X e (tE g W ma)) (hK : X.K = g.K := by rfl) : PI X tg e (tI g W (mIter ma)) :=
  pi_mono (pi_or2 (pi_list he) (pi_or2 (pi_tup he) (pi_str he))) fun σ H R ⟨ρ, h, μ, sr, hr, bk⟩ => by
    have use : ∀ (Q : VK), (∀ x d h1 H1 μ1, ma ρ h = .ok d h1 → Mon g H H1 μ μ1 → HR g H1 μ1 h1 → VR g H1 μ1 x d → Bk (JR g) g H1 μ1 (match itemsOf d h1 with | some r => Mi.R.ok r h1 | none => .bad) R (fun c d H' => W c d σ H') → Q x H1) → tE g W ma σ H Q := fun Q k =>
      ⟨ρ, h, μ, sr, hr, Bk.bind bk fun a h1 b H1 μ1 e m hr1 hv bk1 => k b a h1 H1 μ1 e m hr1 hv bk1⟩
    rw [hK]
    unfold mIter at bk
    cases e : ma ρ h with
    | bad => rw [e] at bk; exact bk.elim
    | exc x fs h' => exact .inl (use _ fun x d h1 H1 μ1 e' => by rw [e] at e'; cases e')
    | ok d h1 =>
      cases d with
      | tup l =>
        refine .inr (.inl (use _ fun x d h1 H1 μ1 e' m hr1 vx bk1 => ?_))
        rw [e] at e'
        cases e'
        cases vx with
        | @tup p xs ds hs vs => exact ⟨p, rfl, ⟨xs, hs.sq⟩, bk1 _ H1 μ1 Mon.refl hr1 (jr_tup hs vs)⟩
      | str z =>
        refine .inr (.inr (use _ fun x d h1 H1 μ1 e' m hr1 vx bk1 => ?_))
        rw [e] at e'
        cases e'
        cases vx
        exact ⟨z, rfl, bk1 _ H1 μ1 Mon.refl hr1 jr_str⟩
      | ref i =>
        refine .inl (use _ fun x d h1 H1 μ1 e' m hr1 vx bk1 => ?_)
        rw [e] at e'
        cases e'
        cases vx with
        | @ref p _ hi =>
          simp only [itemsOf] at bk1
          cases q : getL h1 i with
          | none => rw [q] at bk1; exact bk1.elim
          | some l =>
            rw [q] at bk1
            obtain ⟨xs, hs, vs⟩ := hr1.list hi q
            exact ⟨p, rfl, ⟨xs, hs⟩, bk1 _ H1 μ1 Mon.refl hr1 (jr_list hi)⟩
      | _ => rw [e] at bk; exact bk.elim
theorem lim_of {i : Int} (h : lim62 i = true) : -(2 ^ 62) ≤ i ∧ i < 2 ^ 62 := by
  unfold lim62 at h
  rw [Bool.and_eq_true] at h
  exact ⟨of_decide_eq_true h.1, of_decide_eq_true h.2⟩
theorem si_range1 {p : Pos} (hm : X.mg "range" = none) (ha : PE X a (tE g W ma)) (hg : Gl X "range" := by rfl) (hs : starEach [a] X.env = [(false, eval a X.env)] := by rfl) : PI X tg (.Call (.Name "range" p) [a] [] pos) (tI g W (mRange1 ma)) :=
  pi_mono (pi_range1 hg hm (pa_cons ha pa_nil hs) hs) fun σ H R ⟨ρ, h, μ, sr, hr, bk⟩ => step (rel := VR) (rel' := JR) (ma := ma) (Q' := R) sr hr bk fun x d h1 H1 μ1 m1 sr1 hr1 vx bk1 => by
    cases vx with
    | int j =>
      simp only [dR1] at bk1
      split at bk1
      · rename_i l
        exact ⟨j, rfl, (lim_of l).1, (lim_of l).2, bk1 _ H1 μ1 Mon.refl hr1 jr_range⟩
      · exact bk1.elim
    | _ => exact bk1.elim
end

/-! ### for -/
def forGo (gd : MH → Bool) (tg : MG) (body : MS) : List D → Slots → MH → Out
  | [], ρ, h => if gd h = true then .nx ρ h else .bad
  | d :: ds, ρ, h => if gd h = true then match tg d ρ with
    | some ρ1 => match body ρ1 h with
      | .nx ρ' h' => forGo gd tg body ds ρ' h'
      | .ct ρ' h' => forGo gd tg body ds ρ' h'
      | .bk ρ' h' => .nx ρ' h'
      | .rt d h' => .rt d h'
      | .exc x fs ρ' h' => .exc x fs ρ' h'
      | .bad => .bad
    | none => .bad else .bad
def mFor (it : MI) (tg : MG) (body : MS) : MS := fun ρ h => (it ρ h).out ρ fun a h1 => forGo a.2 tg body a.1 ρ h1
def whGo (c : MT) (body : MS) : Nat → Slots → MH → Out
  | 0, _, _ => .bad
  | n + 1, ρ, h => (c ρ h).out ρ fun b h1 => if b = true then match body ρ h1 with
    | .nx ρ' h' => whGo c body n ρ' h'
    | .ct ρ' h' => whGo c body n ρ' h'
    | .bk ρ' h' => .nx ρ' h'
    | .rt d h' => .rt d h'
    | .exc x fs ρ' h' => .exc x fs ρ' h'
    | .bad => .bad else .nx ρ h1
def mWhile (n : Nat) (c : MT) (body : MS) : MS := fun ρ h => whGo c body n ρ h
section
variable {X : Cx} {g : G} {W : WX} {pos : Pos} {tg iter : Expr} {mi : MI} {mt : MG} {mb : MS} {body : List Stmt} {rl : Rl}
theorem sx_for (hp : PassesOwn (model X.prog X.w) X.A X.env X.xe) (hi : PI X tg iter (tIr rl g W mi)) (hg : PG X tg (tGr rl g mt)) (hb : PSs X body (tS g W mb)) (hc : X.calm = true := by rfl) (hs : ∀ x, foldedSetIterable iter X.env x = pure x := by intro _; rfl) :
    PS X (.For tg iter body [] pos) (tS g W (mFor mi mt mb)) :=
  ps_mono (ps_for hp hc hi hg hb hs) fun E σ H ⟨ρ, h, μ, sr, hr, bk⟩ => stepS (rel := JRr rl) (ma := mi) (E := E) sr hr bk fun J a h1 H1 μ1 m1 sr1 hr1 jr bk1 => by
    refine ⟨fun i m σ' H' => m = a.1.length - i ∧ i ≤ a.1.length ∧ ∃ ρ' h' μ', Mon g H1 H' μ1 μ' ∧ SR g H' μ' σ' ρ' ∧ HR g H' μ' h' ∧ BkS g H' μ' (forGo a.2 mt mb (a.1.drop i) ρ' h') E W, ⟨a.1.length, by simp, Nat.zero_le _, ρ, h1, μ1, Mon.refl, sr1, hr1, by simpa using bk1⟩, ?_⟩
    rintro i m σ' H' ⟨rfl, hi, ρ', h', μ', m', sr', hr', bk'⟩
    by_cases hlt : i < a.1.length
    · have ed : a.1.drop i = a.1[i] :: a.1.drop (i + 1) := List.drop_eq_getElem_cons hlt
      rw [ed] at bk'
      unfold forGo at bk'
      split at bk'
      · rename_i gd
        obtain ⟨jg, _⟩ := jr i H' μ' h' m' hr' gd
        obtain ⟨go, yl⟩ := jg hlt
        refine .inr ⟨go, fun σ2 H2 => i + 1 ≤ a.1.length ∧ ∃ ρ2 h2 μ2, Mon g H1 H2 μ1 μ2 ∧ SR g H2 μ2 σ2 ρ2 ∧ HR g H2 μ2 h2 ∧ BkS g H2 μ2 (forGo a.2 mt mb (a.1.drop (i + 1)) ρ2 h2) E W, fun σ2 H2 q => ⟨a.1.length - (i + 1), by omega, rfl, q.1, q.2⟩, fun x Hy y => ?_⟩
        obtain ⟨d, hd, my, hry, vy⟩ := yl x Hy y
        rw [List.getElem?_eq_getElem hlt] at hd
        cases hd
        refine ⟨ρ', h', μ', _, sr'.mono my, hry, vy, ?_⟩
        split at bk'
        · rename_i ρ1 e1
          intro σ3 sr3
          refine ⟨ρ1, h', μ', sr3, hry, ?_⟩
          have mm := m'.trans my
          cases e2 : mb ρ1 h' with
          | nx ρ4 h4 => rw [e2] at bk'; exact fun σ4 H4 μ4 m4 sr4 hr4 => ⟨hlt, ρ4, h4, μ4, mm.trans m4, sr4, hr4, BkS.mono (my.trans m4) bk'⟩
          | ct ρ4 h4 => rw [e2] at bk'; exact fun σ4 H4 μ4 m4 sr4 hr4 => ⟨hlt, ρ4, h4, μ4, mm.trans m4, sr4, hr4, BkS.mono (my.trans m4) bk'⟩
          | bk ρ4 h4 => rw [e2] at bk'; exact BkS.mono my bk'
          | rt d4 h4 => rw [e2] at bk'; exact BkS.mono my bk'
          | exc x4 fs4 ρ4 h4 => rw [e2] at bk'; exact BkS.mono my bk'
          | bad => rw [e2] at bk'; exact bk'
        · exact bk'.elim
      · exact bk'.elim
    · have e : i = a.1.length := by omega
      subst e
      rw [List.drop_length] at bk'
      unfold forGo at bk'
      split at bk'
      · rename_i gd
        exact .inl ⟨(jr _ H' μ' h' m' hr' gd).2 (Nat.le_refl _), bk' σ' H' μ' Mon.refl sr' hr'⟩
      · exact bk'.elim
theorem sx_while {c : Expr} {mc : MT} (n : Nat) (hp : PassesOwn (model X.prog X.w) X.A X.env X.xe) (hc : PT X c (tT g W mc)) (hb : PSs X body (tS g W mb)) : PS X (.While c body [] pos) (tS g W (mWhile n mc mb)) :=
  ps_mono (ps_while hp hc hb) fun E σ H ⟨ρ, h, μ, sr, hr, bk⟩ => by
    refine ⟨fun m σ' H' => ∃ ρ' h' μ', SR g H' μ' σ' ρ' ∧ HR g H' μ' h' ∧ BkS g H' μ' (whGo mc mb m ρ' h') E W, ⟨n, ρ, h, μ, sr, hr, bk⟩, ?_⟩
    rintro m σ' H' ⟨ρ', h', μ', sr', hr', bk'⟩
    cases m with
    | zero => exact bk'.elim
    | succ m =>
      unfold whGo at bk'
      refine stepS (rel := fun _ => eqR) (ma := mc) (E := E) sr' hr' bk' fun b b' h1 H1 μ1 m1 sr1 hr1 vb bk1 => ?_
      cases vb
      cases b with
      | false => exact bk1 σ' H1 μ1 Mon.refl sr1 hr1
      | true =>
        refine ⟨fun σ2 H2 => ∃ ρ2 h2 μ2, SR g H2 μ2 σ2 ρ2 ∧ HR g H2 μ2 h2 ∧ BkS g H2 μ2 (whGo mc mb m ρ2 h2) E W, fun σ2 H2 q => ⟨m, Nat.lt_succ_self m, q⟩, ρ', h1, μ1, sr1, hr1, ?_⟩
        simp only [if_true] at bk1
        cases e2 : mb ρ' h1 with
        | nx ρ4 h4 => rw [e2] at bk1; exact fun σ4 H4 μ4 m4 sr4 hr4 => ⟨ρ4, h4, μ4, sr4, hr4, BkS.mono m4 bk1⟩
        | ct ρ4 h4 => rw [e2] at bk1; exact fun σ4 H4 μ4 m4 sr4 hr4 => ⟨ρ4, h4, μ4, sr4, hr4, BkS.mono m4 bk1⟩
        | bk ρ4 h4 => rw [e2] at bk1; exact bk1
        | rt d4 h4 => rw [e2] at bk1; exact bk1
        | exc x4 fs4 ρ4 h4 => rw [e2] at bk1; exact bk1
        | bad => rw [e2] at bk1; exact bk1
end

/-! ### a def by its body -/
def startD (n N : Nat) (ds : List D) : Slots := ds.map some ++ List.replicate (N - n) none
def mFun (n N : Nat) (body : MS) : List D → MH → R D := fun ds h => if ds.length = n then match body (startD n N ds) h with
  | .nx _ h' => .ok .non h'
  | .rt d h' => .ok d h'
  | .exc x fs _ h' => .exc x fs h'
  | _ => .bad else .bad
theorem spM_len {g : G} {n N : Nat} {body : MS} {vs : List V} {H : Hp} {Q : VK} {E : XK} (h : spM g (mFun n N body) vs H Q E) : vs.length = n := by
  obtain ⟨ds, hh, μ, v, hr, bk⟩ := h
  unfold mFun at bk
  split at bk
  · rename_i e; rw [v.length]; exact e
  · exact bk.elim
theorem spM_run {g : G} {ps N : List Str} {body : MS} {vs : List V} {H : Hp} {Q : VK} {E : XK} (h : spM g (mFun ps.length N.length body) vs H Q E) : tS g (fun c d _ H' => E c d H') body { nx := fun _ H' => Q .non H', rt := Q } (L2.start N vs) H := by
  have hl := spM_len h
  obtain ⟨ds, hh, μ, v, hr, bk⟩ := h
  unfold mFun at bk
  split at bk
  · rename_i e
    refine ⟨startD ps.length N.length ds, hh, μ, ?_, hr, ?_⟩
    · unfold L2.start startD
      rw [hl]
      exact SR.start _ v
    · cases q : body (startD ps.length N.length ds) hh with
      | nx ρ h' => rw [q] at bk; exact fun σ' H' μ' m sr hr' => bk .non H' μ' m hr' .non
      | rt d h' => rw [q] at bk; exact fun v H' μ' m hr' vd => bk v H' μ' m hr' vd
      | bk ρ h' => rw [q] at bk; exact bk.elim
      | ct ρ h' => rw [q] at bk; exact bk.elim
      | exc x fs ρ h' => rw [q] at bk; exact fun cls d σ' H' μ' m sr hr' xr => bk cls d H' μ' m hr' xr
      | bad => rw [q] at bk; exact bk
  · exact bk.elim
section
variable {P : Program} {w : World} {K : PySem.W.Frag} {mg : Str → Option Value} {base : Heap} {g : G}
theorem fn_mk {x qual : Str} {st : Stmt} {f : Addr} {fd : FuncData} {N ps : List Str} {k : Nat} {body : MS} (F : Fun K x qual st f fd) (S : FnScope N ps (defScope st))
    (hb : ∀ (cdv : Value) (A : Around) (outer : List Env) (s : Shared) (H : Hp) (E : XK), Room k (A.deeper (PyProof.Rows.envOfC qual (defScope st) s.heap.objs.size f cdv)) →
      PSs (cxOf (L2.CX P w) P w K mg base N qual (defScope st) f cdv A outer s H E) (defBody st) (tS g (fun c d _ H' => E c d H') body)) :
    FnOk P w K mg base (L2.CX P w) (k + 1) f fd ps (spM g (mFun ps.length N.length body)) :=
  F.okX S (fun vs H Q E h => spM_len h) fun cdv A outer s H vs Q E hr h => ⟨_, hb cdv A outer s H E hr, spM_run h⟩
end
end Mi
namespace Mi
open PySem L2

/-! ### list comprehensions -/
abbrev W0 : WX := fun _ _ _ _ => False
def mYes : MT := fun _ h => .ok true h
def wipeD (ρ : Slots) : List Nat → Slots
  | [] => ρ
  | v :: vs => (wipeD ρ vs).set v none
theorem SR.wipe {g : G} {H : Hp} {μ : List Addr} {σ : St} {ρ : Slots} (h : SR g H μ σ ρ) : ∀ vs : List Nat, SR g H μ (L2.wipe σ vs) (wipeD ρ vs)
  | [] => h
  | v :: vs => (SR.wipe h vs).unset v none
def lcGo (gd : MH → Bool) (tg : MG) (tt : MT) (te : ME) (c : Nat) (ρ : Slots) : List D → MH → R D
  | [], h => if gd h = true then .ok (.ref c) h else .bad
  | d :: ds, h => if gd h = true then match tg d ρ with
    | some ρ1 => match tt ρ1 h with
      | .ok false h1 => lcGo gd tg tt te c ρ ds h1
      | .ok true h1 => match te ρ1 h1 with
        | .ok y h2 => match h2[c]? with
          | some (.lst acc) => if acc.length < 1000000 then lcGo gd tg tt te c ρ ds (h2.set c (.lst (acc ++ [y]))) else .bad
          | _ => .bad
        | _ => .bad
      | _ => .bad
    | none => .bad else .bad
def mLc (it : MI) (tg : MG) (tt : MT) (te : ME) (vs : List Nat) : ME := fun ρ h => (it ρ h).bind fun a h1 => lcGo a.2 tg tt te h1.length (wipeD ρ vs) a.1 (h1 ++ [.lst []])
/-- a target by its very slots -/
structure TgOk (rl : Rl) (g : G) (t : TG) (m : MG) (vs : List Nat) : Prop where
  run : ∀ (v : V) (d : D) (σ : St) (ρ : Slots) (H : Hp) (μ : List Addr) (h : MH) (Q : St → Hp → Prop), HR g H μ h → rl g H μ v d → SR g H μ (L2.wipe σ vs) ρ →
    match m d ρ with
    | some ρ' => (∀ σ', SR g H μ σ' ρ' → L2.wipe σ' vs = L2.wipe σ vs → Q σ' H) → t v (L2.wipe σ vs) H Q
    | none => True
theorem tg_name {g : G} (j : Nat) : TgOk VR g (gName j) (mgName j) [j] := ⟨fun v d σ ρ H μ h Q hr vd sr => by
  intro k
  refine k _ (sr.set j vd) ?_
  show ((σ.set j none).set j (some v)).set j none = σ.set j none
  rw [List.set_set, List.set_set]⟩
section
variable {g : G} {W : WX} {mi : MI} {mt : MG} {tt : MT} {te : ME} {t : TG} {vs : List Nat} {rl : Rl}
theorem lc_of (ht : TgOk rl g t mt vs) {σ : St} {H : Hp} {Q : VK} (q : tE g W (mLc mi mt tt te vs) σ H Q) : tLc (tIr rl g W mi) t (tT g W0 tt) (tE g W0 te) vs σ H Q := by
  obtain ⟨ρ, h, μ, sr, hr, bk⟩ := q
  refine step (rel := JRr rl) (rel' := VR) (ma := mi) (Q' := Q) sr hr bk fun J a h1 H1 μ1 m1 sr1 hr1 jr bk1 Dd hD => ?_
  have mD : Mon g H1 (upd H1 Dd (.lst [])) μ1 (μ1 ++ [Dd]) := mon_push hD
  refine ⟨fun i m H' => m = a.1.length - i ∧ i ≤ a.1.length ∧ ∃ h' μ', Mon g H1 H' μ1 μ' ∧ μ'[h1.length]? = some Dd ∧ HR g H' μ' h' ∧ Bk (VR g) g H' μ' (lcGo a.2 mt tt te h1.length (wipeD ρ vs) (a.1.drop i) h') Q (fun c d H' => W c d σ H'),
    ⟨a.1.length, by simp, Nat.zero_le _, h1 ++ [.lst []], μ1 ++ [Dd], mD, ix_push hr1.len, hr1.push (u := .lst []) hD ⟨[], upd_same, .nil⟩, Bk.mono mD (by simpa using bk1)⟩, ?_⟩
  rintro i m H' ⟨rfl, hi, h', μ', m', hc, hr', bk'⟩
  by_cases hlt : i < a.1.length
  · have ed : a.1.drop i = a.1[i] :: a.1.drop (i + 1) := List.drop_eq_getElem_cons hlt
    rw [ed] at bk'
    unfold lcGo at bk'
    split at bk'
    · rename_i gd
      obtain ⟨jg, _⟩ := jr i H' μ' h' m' hr' gd
      obtain ⟨go, yl⟩ := jg hlt
      refine .inr ⟨go, fun H2 => i + 1 ≤ a.1.length ∧ ∃ h2 μ2, Mon g H1 H2 μ1 μ2 ∧ μ2[h1.length]? = some Dd ∧ HR g H2 μ2 h2 ∧ Bk (VR g) g H2 μ2 (lcGo a.2 mt tt te h1.length (wipeD ρ vs) (a.1.drop (i + 1)) h2) Q (fun c d H' => W c d σ H'), fun H2 q => ⟨a.1.length - (i + 1), by omega, rfl, q.1, q.2⟩, fun x Hy y => ?_⟩
      obtain ⟨d, hd, my, hry, vy⟩ := yl x Hy y
      rw [List.getElem?_eq_getElem hlt] at hd
      cases hd
      have mm := m'.trans my
      have srw : SR g Hy μ' (L2.wipe σ vs) (wipeD ρ vs) := (sr1.mono mm).wipe vs
      have tr := ht.run x a.1[i] σ (wipeD ρ vs) Hy μ' h' (fun σ2 H2 => L2.wipe σ2 vs = L2.wipe σ vs ∧ tT g W0 tt σ2 H2 fun b H3 => if b = true then tE g W0 te σ2 H3 fun y H4 => ∃ acc, H4 Dd = some (.lst acc) ∧ acc.length < sizeLine ∧ (i + 1 ≤ a.1.length ∧ ∃ h2 μ2, Mon g H1 (upd H4 Dd (.lst (acc ++ [y]))) μ1 μ2 ∧ μ2[h1.length]? = some Dd ∧ HR g (upd H4 Dd (.lst (acc ++ [y]))) μ2 h2 ∧ Bk (VR g) g (upd H4 Dd (.lst (acc ++ [y]))) μ2 (lcGo a.2 mt tt te h1.length (wipeD ρ vs) (a.1.drop (i + 1)) h2) Q (fun c d H' => W c d σ H')) else (i + 1 ≤ a.1.length ∧ ∃ h2 μ2, Mon g H1 H3 μ1 μ2 ∧ μ2[h1.length]? = some Dd ∧ HR g H3 μ2 h2 ∧ Bk (VR g) g H3 μ2 (lcGo a.2 mt tt te h1.length (wipeD ρ vs) (a.1.drop (i + 1)) h2) Q (fun c d H' => W c d σ H'))) hry vy srw
      split at bk'
      · rename_i ρ1 e1
        rw [e1] at tr
        refine tr fun σ2 sr2 ew => ⟨ew, ρ1, h', μ', sr2, hry, ?_⟩
        cases e2 : tt ρ1 h' with
        | bad => rw [e2] at bk'; exact bk'.elim
        | exc x fs h3 => rw [e2] at bk'; exact bk'.elim
        | ok b h3 =>
          rw [e2] at bk'
          intro b' H3 μ3 m3 hr3 eb
          cases eb
          cases b with
          | false => exact ⟨hlt, h3, μ3, mm.trans m3, m3.ix hc, hr3, Bk.mono (my.trans m3) bk'⟩
          | true =>
            refine ⟨ρ1, h3, μ3, sr2.mono m3, hr3, ?_⟩
            simp only at bk'
            cases e3 : te ρ1 h3 with
            | bad => rw [e3] at bk'; exact bk'.elim
            | exc x fs h4 => rw [e3] at bk'; exact bk'.elim
            | ok y h4 =>
              rw [e3] at bk'
              intro yv H4 μ4 m4 hr4 vyv
              simp only at bk'
              split at bk'
              · rename_i acc ea
                split at bk'
                · rename_i hl
                  have hc4 : μ4[h1.length]? = some Dd := m4.ix (m3.ix hc)
                  obtain ⟨xs, hx, vx⟩ := hr4.lst hc4 ea
                  have m5 : Mon g H4 (upd H4 Dd (.lst (xs ++ [yv]))) μ4 μ4 := (Saf.lst hx).mon
                  exact ⟨xs, hx, by rw [vx.length]; exact sz6' hl, hlt, _, μ4, ((mm.trans m3).trans m4).trans m5, hc4,
                    hr4.write (u := .lst (acc ++ [y])) hc4 ea rfl (Saf.lst hx) rfl ⟨_, upd_same, (vx.append (.one vyv)).mono m5⟩, Bk.mono (((my.trans m3).trans m4).trans m5) bk'⟩
                · exact bk'.elim
              · exact bk'.elim
      · exact bk'.elim
    · exact bk'.elim
  · have e : i = a.1.length := by omega
    subst e
    rw [List.drop_length] at bk'
    unfold lcGo at bk'
    split at bk'
    · rename_i gd
      exact .inl ⟨(jr _ H' μ' h' m' hr' gd).2 (Nat.le_refl _), bk' _ H' μ' Mon.refl hr' (.ref hc)⟩
    · exact bk'.elim
end
section
variable {X : Cx} {g : G} {W : WX} {elt tg iter : Expr} {ifs : List Expr} {scope : Scope} {own : List (Str × Nat)} {pos spos py : Pos} {mi : MI} {mt : MG} {tt : MT} {te : ME} {t : TG} {rl : Rl}
theorem st_one {Y : Cx} {c : Expr} (h : PT Y c (tT g W0 tt)) : PTs Y [c] (tT g W0 tt) := pts_one h
theorem st_nil {Y : Cx} : PTs Y [] (tT g W0 mYes) := ⟨fun pins s σ H Q I ⟨ρ, h, μ, sr, hr, bk⟩ => (pts_nil (X := Y)).run pins s σ H Q I (bk true H μ Mon.refl hr rfl)⟩
theorem se_lc (hN : X.N.Nodup) (hi : PI X tg iter (tIr rl g W mi)) (ok : BlkOk X.N X.env.scope scope own) (ht : TgOk rl g t mt (own.map (·.2)))
    (hg : ∀ (s : Shared) (H : Hp) (C : Addr) (cl : List (Str × Addr)) (fp : List Addr), PG (X.blk s H scope (PySem.compEnvC scope cl C X.env) fp) tg t) (hts : ∀ (s : Shared) (H : Hp) (C : Addr) (cl : List (Str × Addr)) (fp : List Addr), PTs (X.blk s H scope (PySem.compEnvC scope cl C X.env) fp) ifs (tT g W0 tt))
    (he : ∀ (s : Shared) (H : Hp) (C : Addr) (cl : List (Str × Addr)) (fp : List Addr), PE (X.blk s H scope (PySem.compEnvC scope cl C X.env) fp) elt (tE g W0 te)) (hc : X.calm = true := by rfl) (hs : ∀ x, foldedSetIterable iter X.env x = pure x := by intro _; rfl) :
    PE X (.ListComp elt [⟨tg, iter, ifs, 0⟩] scope pos) (tE g W (mLc mi mt tt te (own.map (·.2)))) :=
  pe_mono (pe_lc hc hN hi ok hg hts he hs) fun σ H Q q => lc_of ht q
theorem sx_setLc {i : Nat} {y : Str} (hN : X.N.Nodup) (hi : PI X tg iter (tIr rl g W mi)) (ok : BlkOk X.N X.env.scope scope own) (ht : TgOk rl g t mt (own.map (·.2)))
    (hg : ∀ (s : Shared) (H : Hp) (C : Addr) (cl : List (Str × Addr)) (fp : List Addr), PG (X.blk s H scope (PySem.compEnvC scope cl C X.env) fp) tg t) (hts : ∀ (s : Shared) (H : Hp) (C : Addr) (cl : List (Str × Addr)) (fp : List Addr), PTs (X.blk s H scope (PySem.compEnvC scope cl C X.env) fp) ifs (tT g W0 tt))
    (he : ∀ (s : Shared) (H : Hp) (C : Addr) (cl : List (Str × Addr)) (fp : List Addr), PE (X.blk s H scope (PySem.compEnvC scope cl C X.env) fp) elt (tE g W0 te))
    (hy : X.N[i]? = some y := by rfl) (hyl : X.env.scope.names.lookup y = some .local := by rfl) (hsw : swapsWith (.ListComp elt [⟨tg, iter, ifs, 0⟩] scope pos) (some (.Name y py)) spos.line X.env = pure true := by exact sw_true rfl rfl rfl (by decide +kernel))
    (hc : X.calm = true := by rfl) (hs : ∀ x, foldedSetIterable iter X.env x = pure x := by intro _; rfl) :
    PS X (.Assign [.Name y py] (.ListComp elt [⟨tg, iter, ifs, 0⟩] scope pos) spos) (tS g W (mAsg i (mLc mi mt tt te (own.map (·.2))))) :=
  ps_mono (ps_setLc hc hN hy hyl hsw hi ok hg hts he hs) fun E σ H ⟨ρ, h, μ, sr, hr, bk⟩ => lc_of ht (W := W) (stepS (W := W) (rel := VR) (ma := mLc mi mt tt te (own.map (fun p : Str × Nat => p.2))) (f := fun d h1 => .nx (ρ.set i (some d)) h1) (E := E) sr hr bk fun v d h1 H1 μ1 m1 sr1 hr1 vx bk1 => bk1 _ H1 μ1 Mon.refl (sr1.set i vx) hr1)
end

/-! ### stores to places, to several names -/
def dSet (x y d : D) (h : MH) : R Unit := match x, y with
  | .ref i, .int k => match h[i]? with
    | some (.lst l) => match ixN l.length k with
      | some j => .ok () (h.set i (.lst (l.set j d)))
      | none => .bad
    | _ => .bad
  | _, _ => .bad
def mSetIx (o i e : ME) : MS := fun ρ h => (e ρ h).out ρ fun d h1 => (o ρ h1).out ρ fun x h2 => (i ρ h2).out ρ fun y h3 => (dSet x y d h3).out ρ fun _ h4 => .nx ρ h4
def mAsgT (m : MG) (e : ME) : MS := fun ρ h => (e ρ h).out ρ fun d h1 => match m d ρ with
  | some ρ' => .nx ρ' h1
  | none => .bad
section
variable {X : Cx} {g : G} {W : WX} {o i e tg : Expr} {mo mi me : ME} {pos p2 : Pos} {mt : MG}
theorem sx_setIx (ho : PE X o (tE g W mo)) (hi : PE X i (tE g W mi)) (he : PE X e (tE g W me))
    (ha : ∀ v, assign (.Subscript o i p2) X.env v = (do
      let ov ← holding [v] (eval o X.env)
      let iv ← holding [v, ov] (eval i X.env)
      standAt p2
      holding [v, ov, iv] (setItem ov iv v)
      release [v, ov, iv] []) := by intro _; rfl)
    (hs : swapsWithSole [.Subscript o i p2] e pos.line X.env = pure false := by rfl) (hw : swappedStores [.Subscript o i p2] e X.env = pure none := by rfl)
    (h1 : (assignEach [.Subscript o i p2] X.env).map (·.2) = [assign (.Subscript o i p2) X.env] := by rfl) : PS X (.Assign [.Subscript o i p2] e pos) (tS g W (mSetIx mo mi me)) :=
  ps_mono (ps_asg he (pg_sub ho hi set_list ha) hs hw h1) fun E σ H ⟨ρ, h, μ, sr, hr, bk⟩ =>
    stepS (rel := VR) (ma := me) (E := E) sr hr bk fun v d h1 H1 μ1 m1 sr1 hr1 vd bk1 => stepS (rel := VR) (ma := mo) (E := E) sr1 hr1 bk1 fun x a h2 H2 μ2 m2 sr2 hr2 vx bk2 => stepS (rel := VR) (ma := mi) (E := E) sr2 hr2 bk2 fun y b h3 H3 μ3 m3 sr3 hr3 vy bk3 => by
      have vx := vx.mono m3
      have vd := (vd.mono m2).mono m3
      cases vx with
      | @ref p c hi =>
        cases vy with
        | int k =>
          simp only [dSet] at bk3
          split at bk3
          · rename_i l q
            split at bk3
            · rename_i j ej
              obtain ⟨xs, hx, vxs⟩ := hr3.lst hi q
              refine ⟨p, xs, k, j, rfl, rfl, hx, by rw [vxs.length]; exact ej, ?_⟩
              have m5 : Mon g H3 (upd H3 p (.lst (xs.set j v))) μ3 μ3 := (Saf.lst hx).mon
              exact bk3 _ _ μ3 m5 (sr3.mono m5) (hr3.write (u := .lst (l.set j d)) hi q rfl (Saf.lst hx) rfl ⟨_, upd_same, (vxs.set j vd).mono m5⟩)
            · exact bk3.elim
          · exact bk3.elim
        | _ => exact bk3.elim
      | _ => exact bk3.elim
theorem sx_setT (he : PE X e (tE g W me)) (hg : PG X tg (tG g mt)) (hs : swapsWithSole [tg] e pos.line X.env = pure false := by rfl) (hw : swappedStores [tg] e X.env = pure none := by rfl)
    (h1 : (assignEach [tg] X.env).map (·.2) = [assign tg X.env] := by rfl) : PS X (.Assign [tg] e pos) (tS g W (mAsgT mt me)) :=
  ps_mono (ps_asg he hg hs hw h1) fun E σ H ⟨ρ, h, μ, sr, hr, bk⟩ => stepS (rel := VR) (ma := me) (E := E) sr hr bk fun v d h1 H1 μ1 m1 sr1 hr1 vd bk1 => by
    refine ⟨ρ, h1, μ1, d, sr1, hr1, vd, ?_⟩
    split at bk1
    · rename_i ρ' e'
      (try rw [e'])
      exact fun σ' sr' => bk1 σ' H1 μ1 Mon.refl sr' hr1
    · exact bk1.elim
end

/-! ### the end of a law -/
def cmOf (K : PySem.W.Frag) : Str → Option Addr := fun x => match PySem.W.nsIn K mainGlobals x with
  | some (some (.ref C)) => some C
  | _ => none
abbrev gOf (w : World) (K : PySem.W.Frag) : G := ⟨K, cmOf K, w⟩
theorem vrs_ints {g : G} {H : Hp} {μ : List Addr} : ∀ ns : List Int, VRs g H μ (ns.map V.int) (ns.map D.int)
  | [] => .nil
  | n :: ns => .cons (.int n) (vrs_ints ns)
theorem law_start {K : PySem.W.Frag} {F : List D → MH → R D} {H : Hp} {a : Addr} {ns : List Int} {h' : MH} (hO : Only H) (hS : SqL K H a (ns.map V.int)) (hF : F [.ref 0] [.rol (ns.map D.int)] = .ok (.bl true) h') :
    spM (gOf w K) F [.ref a] H (fun v _ => v = .bl true) fun _ _ _ => False := by
  refine ⟨[.ref 0], [.rol (ns.map D.int)], [a], .cons (.ref rfl) .nil, ⟨rfl, fun i p o hi ho => ?_, fun i j p o u hi hj ho hu m1 m2 => ?_⟩, ?_⟩
  · cases i with
    | succ i => simp at hi
    | zero =>
      simp at hi ho
      subst hi ho
      refine ⟨ns.map V.int, ?_, vrs_ints ns⟩
      rcases hS with (h | h) | h
      · rcases hO a with z | ⟨o, xs, z⟩
        · rw [h] at z; cases z
        · rw [h] at z; cases z
      · exact .inl h
      · exact .inr h
  · cases i with
    | succ i => simp at hi
    | zero => cases j with
      | succ j => simp at hj
      | zero => rfl
  · rw [hF]
    intro v H' μ' m hr hv
    cases hv
    rfl
theorem law_end {l : PySem.W.OpenLaw} {k : Nat} {q : Program} {loose : List Str} {XP : (Str → Option Value) → Heap → Prop} {YP : World → Heap → Prop} {d : DefRec} {K : Params → PySem.W.Frag} {x : Str} {F : List D → MH → R D}
    (hF : ∀ ns : List Int, ns.length ≤ 63 → (∀ z ∈ ns, Builtin.Int.intBits z ≤ 1048576) → ∃ h', F [.ref 0] [.rol (ns.map D.int)] = .ok (.bl true) h')
    (hn : l.most = some 63) (hdf : d.params.defaults = []) (hr : Room k PySem.callerA)
    (hY : ∀ (w : World) (h : Heap), YP w h → (K w.params).In h)
    (FF : ∀ (w : World) (mg : Str → Option Value) (fa : Addr) (h : Heap), (K w.params).In h → h.Ns mainGlobals mg → mg d.name = some (.ref fa) →
      ∃ fd : FuncData, (∀ (s : Shared) (u : Value), BindsTo s fd ⟨[u], []⟩ [(x, u)]) ∧
        ∀ base : Heap, (K w.params).In base → base.Ns mainGlobals mg → FnOk l.prog w (K w.params) mg base (L2.CX l.prog w) k fa fd [x] (spM (gOf w (K w.params)) F)) :
    PySem.W.WalkO q loose XP YP l.row.toRowW d [] (fun f vs => PySem.call f vs) :=
  walk_ofB (n := 63) (k := k) (x := x) (CX := fun w => L2.CX l.prog w) (sp := fun w => spM (gOf w (K w.params)) F) hn (by decide) hdf hr hY FF
    (fun w H a ns h1 h2 hO hS => let ⟨h', e⟩ := hF ns h1 h2; law_start hO hS e)
    fun w H s e s' c => by
      obtain ⟨_, _, _, _, _, _, _, _, _, _, _, _, z⟩ := c
      exact z
end Mi
namespace Mi
open PySem L2

/-! ### dict displays of no pair, of one -/
def keyD : D → Option Key
  | .int i => some (.inl i)
  | .str x => some (.inr x)
  | _ => none
def mDict0 : ME := fun _ h => .ok (.ref h.length) (h ++ [.dK []])
def mDict1 (k v : ME) : ME := fun ρ h => (k ρ (h ++ [.dK []])).bind fun x h1 => (v ρ h1).bind fun y h2 => if h2[h.length]? = some (.dK []) then match keyD x with
  | some kk => .ok (.ref h.length) (h2.set h.length (.dK [(kk, y)]))
  | none => .bad else .bad
section
variable {X : Cx} {g : G} {W : WX} {k v : Expr} {mk mv : ME} {pos : Pos}
theorem se_dict0 : PE X (.Dict [] [] pos) (tE g W mDict0) := pe_mono pe_dnewK fun σ H Q ⟨ρ, h, μ, sr, hr, bk⟩ p hp =>
  bk _ _ (μ ++ [p]) (mon_push hp) (hr.push (u := .dK []) hp ⟨[], upd_same, .nil⟩) (.ref (ix_push hr.len))
theorem keyD_of {H : Hp} {μ : List Addr} {x : V} {d : D} {kk : Key} (vx : VR g H μ x d) (e : keyD d = some kk) : x = kV kk := by
  cases vx <;> cases e <;> rfl
end
/-! ### a < b < c -/
def mChain (f f' : D → D → MH → R D) (a b c : ME) : ME := fun ρ h => (a ρ h).bind fun x h1 => (b ρ h1).bind fun y h2 => (f x y h2).bind fun z h3 => match z with
  | .bl true => (c ρ h3).bind fun w h4 => f' y w h4
  | .bl false => .ok (.bl false) h3
  | _ => .bad
section
variable {X : Cx} {g : G} {W : WX} {a b c : Expr} {ma mb mc : ME} {pos : Pos} {r r' : R2} {f f' : D → D → MH → R D} {op op' : CmpOp}
end

/-! ### defs by their names -/
/-- a def of the top, as it stands: its text, its parameters -/
def Df (K : PySem.W.Frag) (mg : Str → Option Value) (x : Str) (st : Stmt) (ps : List Str) : Prop := ∃ f fd, Fun K x x st f fd ∧ mg x = some (.ref f) ∧ Binds K fd ps []
/-- a def that does what F says, by at most k calls deep -/
def Cal (P : Program) (w : World) (K : PySem.W.Frag) (mg : Str → Option Value) (base : Heap) (x : Str) (k : Nat) (F : List D → MH → R D) : Prop :=
  ∃ f fd ps, FnOk P w K mg base (L2.CX P w) k f fd ps (spM (gOf w K) F) ∧ mg x = some (.ref f) ∧ PySem.W.keepIn K (.ref f) = true ∧ Binds K fd ps []
section
variable {P : Program} {w : World} {K : PySem.W.Frag} {mg : Str → Option Value} {base : Heap}
theorem df_mk {h : Heap} {x : Str} {st : Stmt} {ps : List Str} {f : Addr} {oc : Value} {od an : Option Addr} {osl : Array (Option Value)} {kV doc pm cdv ct : Value} (X : K.In h) (G : h.Ns mainGlobals mg)
    (a : PySem.W.nsIn K mainGlobals x = some (some (.ref f))) (l : K.lookup f = some ⟨oc, od, .func (PySem.W.fnOf x x (defArgs st) (defBody st) (defScope st) .none kV doc pm an cdv ct), osl⟩)
    (c : PySem.W.codeIn K cdv x = true) (k : PySem.W.keepIn K (.ref f) = true)
    (hb : ∀ (kV doc pm : Value) (an : Option Addr) (cdv ct : Value) (us : List Value), us.length = ps.length → bindArgs (PySem.W.fnOf x x (defArgs st) (defBody st) (defScope st) .none kV doc pm an cdv ct) ⟨us, []⟩ = pure (ps.zip us)) : Df K mg x st ps := by
  have F := fun_mk (st := st) l c k
  exact ⟨f, _, F, PySem.W.mg_of X G a, F.binds hb⟩
theorem Cal.mono {x : Str} {j k : Nat} {F : List D → MH → R D} (c : Cal P w K mg base x j F) (h : j ≤ k) : Cal P w K mg base x k F := by
  obtain ⟨f, fd, ps, F1, m, kp, b⟩ := c
  exact ⟨f, fd, ps, F1.mono h, m, kp, b⟩
theorem cal_mk {x : Str} {st : Stmt} {N ps : List Str} {k : Nat} {body : MS} (d : Df K mg x st ps) (S : FnScope N ps (defScope st))
    (hb : ∀ (f : Addr) (cdv : Value) (A : Around) (outer : List Env) (s : Shared) (H : Hp) (E : XK), Room k (A.deeper (PyProof.Rows.envOfC x (defScope st) s.heap.objs.size f cdv)) →
      PSs (cxOf (L2.CX P w) P w K mg base N x (defScope st) f cdv A outer s H E) (defBody st) (tS (gOf w K) (fun c d _ H' => E c d H') body)) : Cal P w K mg base x (k + 1) (mFun ps.length N.length body) := by
  obtain ⟨f, fd, F, m, b⟩ := d
  exact ⟨f, fd, ps, fn_mk F S (hb f), m, F.kp, b⟩
end
section
variable {X : Cx} {W : WX} {e : Expr} {es : List Expr} {mr : MA} {p pos : Pos}
theorem se_callC {x : Str} {k : Nat} {F : List D → MH → R D} (c : Cal X.prog X.w X.K X.mg X.base x k F) (hr : Room k X.A) (tk : Takes X W) (ha : PA X (e :: es) (tA (gOf X.w X.K) W mr)) (hg : Gl X x := by rfl) (hdb : (x == ("__debug__" : Str)) = false := by decide)
    (he : starEach (e :: es) X.env = (false, eval e X.env) :: starEach es X.env := by rfl) (hpl : (backTo pos (starEach es X.env)).any (·.1) = false := by rfl) : PE X (.Call (.Name x p) (e :: es) [] pos) (tE (gOf X.w X.K) W (mCall F mr)) := by
  obtain ⟨f, fd, ps, F1, m, kp, b⟩ := c
  exact se_call F1 hr tk m kp b ha hg hdb he hpl
end
end Mi

/-! How the mirror's parts are reckoned, step by step: each rule speaks of a part that stands applied to its slots and heap, and leaves what follows unapplied. -/
namespace Mi
open PySem L2

/-- not by rfl, so that simp writes each step out (the kernel then needs no unfolding of the rest) -/
theorem nr {α : Sort _} {a b : α} (h : a = b) : a = b := h
@[simp] theorem mVar_zero (d : D) (r : Slots) (h : MH) : mVar 0 (some d :: r) h = .ok d h := nr rfl
@[simp] theorem mVar_succ (n : Nat) (o : Option D) (r : Slots) (h : MH) : mVar (n + 1) (o :: r) h = mVar n r h := nr rfl
@[simp] theorem mC_ev (d : D) (ρ : Slots) (h : MH) : mC d ρ h = .ok d h := nr rfl
def bin2 (f : D → D → MH → R D) (b : ME) (ρ : Slots) (r : R D) : R D := r.bind fun x h1 => (b ρ h1).bind fun y h2 => f x y h2
def bin1 (f : D → D → MH → R D) (x : D) (r : R D) : R D := r.bind fun y h2 => f x y h2
@[simp] theorem mBin_ev (f : D → D → MH → R D) (a b : ME) (ρ : Slots) (h : MH) : mBin f a b ρ h = bin2 f b ρ (a ρ h) := nr rfl
@[simp] theorem bin2_ok (f : D → D → MH → R D) (b : ME) (ρ : Slots) (x : D) (h : MH) : bin2 f b ρ (.ok x h) = bin1 f x (b ρ h) := nr rfl
@[simp] theorem bin1_ok (f : D → D → MH → R D) (x y : D) (h : MH) : bin1 f x (.ok y h) = f x y h := nr rfl
def un1 (f : D → MH → R D) : R D → R D
  | .ok y h2 => f y h2
  | .exc x fs h => .exc x fs h
  | .bad => .bad
@[simp] theorem mUn_ev (f : D → MH → R D) (a : ME) (ρ : Slots) (h : MH) : mUn f a ρ h = un1 f (a ρ h) := by
  unfold mUn un1
  cases a ρ h <;> rfl
@[simp] theorem un1_ok (f : D → MH → R D) (x : D) (h : MH) : un1 f (.ok x h) = f x h := nr rfl
@[simp] theorem mNil_ev (ρ : Slots) (h : MH) : mNil ρ h = .ok [] h := nr rfl
def cons1 (t : MA) (ρ : Slots) (r : R D) : R (List D) := r.bind fun x h1 => (t ρ h1).bind fun xs h2 => .ok (x :: xs) h2
def cons2 (x : D) (r : R (List D)) : R (List D) := r.bind fun xs h2 => .ok (x :: xs) h2
@[simp] theorem mCons_ev (a : ME) (r : MA) (ρ : Slots) (h : MH) : mCons a r ρ h = cons1 r ρ (a ρ h) := nr rfl
@[simp] theorem cons1_ok (r : MA) (ρ : Slots) (x : D) (h : MH) : cons1 r ρ (.ok x h) = cons2 x (r ρ h) := nr rfl
@[simp] theorem cons2_ok (x : D) (xs : List D) (h : MH) : cons2 x (.ok xs h) = .ok (x :: xs) h := nr rfl
def call1 (F : List D → MH → R D) : R (List D) → R D
  | .ok xs h1 => F xs h1
  | .exc x fs h => .exc x fs h
  | .bad => .bad
@[simp] theorem mCall_ev (F : List D → MH → R D) (a : MA) (ρ : Slots) (h : MH) : mCall F a ρ h = call1 F (a ρ h) := by
  unfold mCall call1
  cases a ρ h <;> rfl
@[simp] theorem call1_ok (F : List D → MH → R D) (xs : List D) (h : MH) : call1 F (.ok xs h) = F xs h := nr rfl
def tup1 : R (List D) → R D
  | .ok xs h1 => if xs.length ≤ 1000000 then .ok (.tup xs) h1 else .bad
  | .exc x fs h => .exc x fs h
  | .bad => .bad
@[simp] theorem mTup_ev (a : MA) (ρ : Slots) (h : MH) : mTup a ρ h = tup1 (a ρ h) := by
  unfold mTup tup1
  cases a ρ h <;> rfl
@[simp] theorem tup1_ok (xs : List D) (h : MH) : tup1 (.ok xs h) = if xs.length ≤ 1000000 then .ok (.tup xs) h else .bad := nr rfl
def lst1 : R (List D) → R D
  | .ok xs h1 => if xs.length ≤ 1000000 then .ok (.ref h1.length) (h1 ++ [.lst xs]) else .bad
  | .exc x fs h => .exc x fs h
  | .bad => .bad
@[simp] theorem mLst_ev (a : MA) (ρ : Slots) (h : MH) : mLst a ρ h = lst1 (a ρ h) := by
  unfold mLst lst1
  cases a ρ h <;> rfl
@[simp] theorem lst1_ok (xs : List D) (h : MH) : lst1 (.ok xs h) = if xs.length ≤ 1000000 then .ok (.ref h.length) (h ++ [.lst xs]) else .bad := nr rfl
/-! tests -/
def b1 : R D → R Bool
  | .ok (.bl b) h => .ok b h
  | .ok _ _ => .bad
  | .exc x fs h => .exc x fs h
  | .bad => .bad
@[simp] theorem mB_ev (a : ME) (ρ : Slots) (h : MH) : mB a ρ h = b1 (a ρ h) := by
  unfold mB b1
  cases a ρ h with
  | ok x h1 => cases x <;> rfl
  | _ => rfl
@[simp] theorem b1_ok (b : Bool) (h : MH) : b1 (.ok (.bl b) h) = .ok b h := nr rfl
def and1 (b : MT) (ρ : Slots) : R Bool → R Bool
  | .ok true h => b ρ h
  | .ok false h => .ok false h
  | .exc x fs h => .exc x fs h
  | .bad => .bad
def or1 (b : MT) (ρ : Slots) : R Bool → R Bool
  | .ok true h => .ok true h
  | .ok false h => b ρ h
  | .exc x fs h => .exc x fs h
  | .bad => .bad
def not1 : R Bool → R Bool
  | .ok b h => .ok (!b) h
  | .exc x fs h => .exc x fs h
  | .bad => .bad
@[simp] theorem mAnd_ev (a b : MT) (ρ : Slots) (h : MH) : mAnd a b ρ h = and1 b ρ (a ρ h) := by
  unfold mAnd and1
  cases a ρ h with
  | ok x h1 => cases x <;> rfl
  | _ => rfl
@[simp] theorem mOr_ev (a b : MT) (ρ : Slots) (h : MH) : mOr a b ρ h = or1 b ρ (a ρ h) := by
  unfold mOr or1
  cases a ρ h with
  | ok x h1 => cases x <;> rfl
  | _ => rfl
@[simp] theorem mNot_ev (a : MT) (ρ : Slots) (h : MH) : mNot a ρ h = not1 (a ρ h) := by
  unfold mNot not1
  cases a ρ h <;> rfl
@[simp] theorem and1_t (b : MT) (ρ : Slots) (h : MH) : and1 b ρ (.ok true h) = b ρ h := nr rfl
@[simp] theorem and1_f (b : MT) (ρ : Slots) (h : MH) : and1 b ρ (.ok false h) = .ok false h := nr rfl
@[simp] theorem or1_t (b : MT) (ρ : Slots) (h : MH) : or1 b ρ (.ok true h) = .ok true h := nr rfl
@[simp] theorem or1_f (b : MT) (ρ : Slots) (h : MH) : or1 b ρ (.ok false h) = b ρ h := nr rfl
@[simp] theorem not1_ok (b : Bool) (h : MH) : not1 (.ok b h) = .ok (!b) h := nr rfl
def andV1 (b : ME) (ρ : Slots) : R D → R D
  | .ok (.bl true) h => b ρ h
  | .ok (.bl false) h => .ok (.bl false) h
  | .ok _ _ => .bad
  | .exc x fs h => .exc x fs h
  | .bad => .bad
def orV1 (b : ME) (ρ : Slots) : R D → R D
  | .ok (.bl true) h => .ok (.bl true) h
  | .ok (.bl false) h => b ρ h
  | .ok _ _ => .bad
  | .exc x fs h => .exc x fs h
  | .bad => .bad
def notV1 : R D → R D
  | .ok (.bl b) h => .ok (.bl (!b)) h
  | .ok _ _ => .bad
  | .exc x fs h => .exc x fs h
  | .bad => .bad
@[simp] theorem mAndV_ev (a b : ME) (ρ : Slots) (h : MH) : mAndV a b ρ h = andV1 b ρ (a ρ h) := by
  unfold mAndV andV1
  cases a ρ h with
  | ok x h1 => cases x with
    | bl b => cases b <;> rfl
    | _ => rfl
  | _ => rfl
@[simp] theorem mOrV_ev (a b : ME) (ρ : Slots) (h : MH) : mOrV a b ρ h = orV1 b ρ (a ρ h) := by
  unfold mOrV orV1
  cases a ρ h with
  | ok x h1 => cases x with
    | bl b => cases b <;> rfl
    | _ => rfl
  | _ => rfl
@[simp] theorem mNotV_ev (a : ME) (ρ : Slots) (h : MH) : mNotV a ρ h = notV1 (a ρ h) := by
  unfold mNotV notV1
  cases a ρ h with
  | ok x h1 => cases x <;> rfl
  | _ => rfl
@[simp] theorem andV1_t (b : ME) (ρ : Slots) (h : MH) : andV1 b ρ (.ok (.bl true) h) = b ρ h := nr rfl
@[simp] theorem andV1_f (b : ME) (ρ : Slots) (h : MH) : andV1 b ρ (.ok (.bl false) h) = .ok (.bl false) h := nr rfl
@[simp] theorem orV1_t (b : ME) (ρ : Slots) (h : MH) : orV1 b ρ (.ok (.bl true) h) = .ok (.bl true) h := nr rfl
@[simp] theorem orV1_f (b : ME) (ρ : Slots) (h : MH) : orV1 b ρ (.ok (.bl false) h) = b ρ h := nr rfl
@[simp] theorem notV1_ok (b : Bool) (h : MH) : notV1 (.ok (.bl b) h) = .ok (.bl (!b)) h := nr rfl
def ifE1 (a b : ME) (ρ : Slots) : R Bool → R D
  | .ok true h => a ρ h
  | .ok false h => b ρ h
  | .exc x fs h => .exc x fs h
  | .bad => .bad
@[simp] theorem mIfE_ev (c : MT) (a b : ME) (ρ : Slots) (h : MH) : mIfE c a b ρ h = ifE1 a b ρ (c ρ h) := by
  unfold mIfE ifE1
  cases c ρ h with
  | ok x h1 => cases x <;> rfl
  | _ => rfl
@[simp] theorem ifE1_t (a b : ME) (ρ : Slots) (h : MH) : ifE1 a b ρ (.ok true h) = a ρ h := nr rfl
@[simp] theorem ifE1_f (a b : ME) (ρ : Slots) (h : MH) : ifE1 a b ρ (.ok false h) = b ρ h := nr rfl
/-! isinstance, slices, methods -/
def isi1 (T : String) : R D → R D
  | .ok x h => match (tyName h x).bind fun n => kitB n T with
    | some b => .ok (.bl b) h
    | none => .bad
  | .exc x fs h => .exc x fs h
  | .bad => .bad
@[simp] theorem mIsi_ev (T : String) (a : ME) (ρ : Slots) (h : MH) : mIsi T a ρ h = isi1 T (a ρ h) := by
  unfold mIsi isi1
  cases a ρ h <;> rfl
theorem isi1_ok (T : String) (x : D) (h : MH) {n : String} {b : Bool} (hn : tyName h x = some n) (hb : kitB n T = some b) : isi1 T (.ok x h) = .ok (.bl b) h := by
  unfold isi1
  simp only [hn, Option.bind_some, hb]
@[simp] theorem isi_str_str (x : Str) (h : MH) : isi1 "str" (.ok (.str x) h) = .ok (.bl true) h := isi1_ok _ _ _ rfl (by decide +kernel)
@[simp] theorem isi_str_int (x : Int) (h : MH) : isi1 "str" (.ok (.int x) h) = .ok (.bl false) h := isi1_ok _ _ _ rfl (by decide +kernel)
@[simp] theorem isi_str_non (h : MH) : isi1 "str" (.ok .non h) = .ok (.bl false) h := isi1_ok _ _ _ rfl (by decide +kernel)
@[simp] theorem isi_str_bl (b : Bool) (h : MH) : isi1 "str" (.ok (.bl b) h) = .ok (.bl false) h := isi1_ok _ _ _ rfl (by decide +kernel)
@[simp] theorem isi_str_tup (l : List D) (h : MH) : isi1 "str" (.ok (.tup l) h) = .ok (.bl false) h := isi1_ok _ _ _ rfl (by decide +kernel)
@[simp] theorem isi_bool_bl (b : Bool) (h : MH) : isi1 "bool" (.ok (.bl b) h) = .ok (.bl true) h := isi1_ok _ _ _ rfl (by decide +kernel)
@[simp] theorem isi_bool_int (b : Int) (h : MH) : isi1 "bool" (.ok (.int b) h) = .ok (.bl false) h := isi1_ok _ _ _ rfl (by decide +kernel)
@[simp] theorem isi_int_int (b : Int) (h : MH) : isi1 "int" (.ok (.int b) h) = .ok (.bl true) h := isi1_ok _ _ _ rfl (by decide +kernel)
@[simp] theorem isi_tup_tup (l : List D) (h : MH) : isi1 "tuple" (.ok (.tup l) h) = .ok (.bl true) h := isi1_ok _ _ _ rfl (by decide +kernel)
@[simp] theorem isi_tup_str (x : Str) (h : MH) : isi1 "tuple" (.ok (.str x) h) = .ok (.bl false) h := isi1_ok _ _ _ rfl (by decide +kernel)
@[simp] theorem isi_tup_int (x : Int) (h : MH) : isi1 "tuple" (.ok (.int x) h) = .ok (.bl false) h := isi1_ok _ _ _ rfl (by decide +kernel)
@[simp] theorem isi_tup_non (h : MH) : isi1 "tuple" (.ok .non h) = .ok (.bl false) h := isi1_ok _ _ _ rfl (by decide +kernel)
@[simp] theorem mNo_ev (ρ : Slots) (h : MH) : mNo ρ h = .ok none h := nr rfl
def some1 : R D → R (Option Int)
  | .ok (.int i) h => .ok (some i) h
  | .ok _ _ => .bad
  | .exc x fs h => .exc x fs h
  | .bad => .bad
@[simp] theorem mSome_ev (a : ME) (ρ : Slots) (h : MH) : mSome a ρ h = some1 (a ρ h) := by
  unfold mSome some1
  cases a ρ h with
  | ok x h1 => cases x <;> rfl
  | _ => rfl
@[simp] theorem some1_ok (i : Int) (h : MH) : some1 (.ok (.int i) h) = .ok (some i) h := nr rfl
def sl1 (lo hi : MP) (ρ : Slots) (r : R D) : R D := r.bind fun x h1 => (lo ρ h1).bind fun l h2 => (hi ρ h2).bind fun u h3 => dSl x l u h3
def sl2 (x : D) (hi : MP) (ρ : Slots) (r : R (Option Int)) : R D := r.bind fun l h2 => (hi ρ h2).bind fun u h3 => dSl x l u h3
def sl3 (x : D) (l : Option Int) (r : R (Option Int)) : R D := r.bind fun u h3 => dSl x l u h3
@[simp] theorem mSl_ev (a : ME) (lo hi : MP) (ρ : Slots) (h : MH) : mSl a lo hi ρ h = sl1 lo hi ρ (a ρ h) := nr rfl
@[simp] theorem sl1_ok (lo hi : MP) (ρ : Slots) (x : D) (h : MH) : sl1 lo hi ρ (.ok x h) = sl2 x hi ρ (lo ρ h) := nr rfl
@[simp] theorem sl2_ok (x : D) (hi : MP) (ρ : Slots) (l : Option Int) (h : MH) : sl2 x hi ρ (.ok l h) = sl3 x l (hi ρ h) := nr rfl
@[simp] theorem sl3_ok (x : D) (l u : Option Int) (h : MH) : sl3 x l (.ok u h) = dSl x l u h := nr rfl
def meth1 (T : D → MH → Bool) (f : D → List D → MH → R D) (t : MA) (ρ : Slots) (r : R D) : R D := r.bind fun x h1 => if T x h1 = true then (t ρ h1).bind fun xs h2 => f x xs h2 else .bad
def meth2 (f : D → List D → MH → R D) (x : D) (r : R (List D)) : R D := r.bind fun xs h2 => f x xs h2
@[simp] theorem mMeth_ev (T : D → MH → Bool) (f : D → List D → MH → R D) (a : ME) (r : MA) (ρ : Slots) (h : MH) : mMeth T f a r ρ h = meth1 T f r ρ (a ρ h) := nr rfl
@[simp] theorem meth1_ok (T : D → MH → Bool) (f : D → List D → MH → R D) (r : MA) (ρ : Slots) (x : D) (h : MH) : meth1 T f r ρ (.ok x h) = if T x h = true then meth2 f x (r ρ h) else .bad := nr rfl
@[simp] theorem meth2_ok (f : D → List D → MH → R D) (x : D) (xs : List D) (h : MH) : meth2 f x (.ok xs h) = f x xs h := nr rfl
@[simp] theorem isListD_ref (i : Nat) (h : MH) : isListD (.ref i) h = (getL h i).isSome := nr rfl
@[simp] theorem isStrD_str (x : Str) (h : MH) : isStrD (.str x) h = true := nr rfl
/-! statements -/
def Out.then (b : MS) : Out → Out
  | .nx ρ h => b ρ h
  | o => o
@[simp] theorem mSeq_ev (a b : MS) (ρ : Slots) (h : MH) : mSeq a b ρ h = (a ρ h).then b := by
  unfold mSeq Out.then
  cases a ρ h <;> rfl
@[simp] theorem then_nx (b : MS) (ρ : Slots) (h : MH) : Out.then b (.nx ρ h) = b ρ h := nr rfl
@[simp] theorem then_rt (b : MS) (d : D) (h : MH) : Out.then b (.rt d h) = .rt d h := nr rfl
@[simp] theorem then_bk (b : MS) (ρ : Slots) (h : MH) : Out.then b (.bk ρ h) = .bk ρ h := nr rfl
@[simp] theorem then_ct (b : MS) (ρ : Slots) (h : MH) : Out.then b (.ct ρ h) = .ct ρ h := nr rfl
@[simp] theorem then_exc (b : MS) (x : Str) (fs : List (Str × D)) (ρ : Slots) (h : MH) : Out.then b (.exc x fs ρ h) = .exc x fs ρ h := nr rfl
@[simp] theorem mSkip_ev (ρ : Slots) (h : MH) : mSkip ρ h = .nx ρ h := nr rfl
@[simp] theorem mBreak_ev (ρ : Slots) (h : MH) : mBreak ρ h = .bk ρ h := nr rfl
@[simp] theorem mCont_ev (ρ : Slots) (h : MH) : mCont ρ h = .ct ρ h := nr rfl
@[simp] theorem mRetN_ev (ρ : Slots) (h : MH) : mRetN ρ h = .rt .non h := nr rfl
def asg1 (i : Nat) (ρ : Slots) : R D → Out
  | .ok d h => .nx (ρ.set i (some d)) h
  | .exc x fs h => .exc x fs ρ h
  | .bad => .bad
def ret1 (ρ : Slots) : R D → Out
  | .ok d h => .rt d h
  | .exc x fs h => .exc x fs ρ h
  | .bad => .bad
def drop1 (ρ : Slots) : R D → Out
  | .ok d h => .nx ρ h
  | .exc x fs h => .exc x fs ρ h
  | .bad => .bad
def if1 (a b : MS) (ρ : Slots) : R Bool → Out
  | .ok true h => a ρ h
  | .ok false h => b ρ h
  | .exc x fs h => .exc x fs ρ h
  | .bad => .bad
@[simp] theorem mAsg_ev (i : Nat) (e : ME) (ρ : Slots) (h : MH) : mAsg i e ρ h = asg1 i ρ (e ρ h) := by
  unfold mAsg asg1
  cases e ρ h <;> rfl
@[simp] theorem asg1_ok (i : Nat) (ρ : Slots) (d : D) (h : MH) : asg1 i ρ (.ok d h) = .nx (ρ.set i (some d)) h := nr rfl
@[simp] theorem mRet_ev (e : ME) (ρ : Slots) (h : MH) : mRet e ρ h = ret1 ρ (e ρ h) := by
  unfold mRet ret1
  cases e ρ h <;> rfl
@[simp] theorem ret1_ok (ρ : Slots) (d : D) (h : MH) : ret1 ρ (.ok d h) = .rt d h := nr rfl
@[simp] theorem mDrop_ev (e : ME) (ρ : Slots) (h : MH) : mDrop e ρ h = drop1 ρ (e ρ h) := by
  unfold mDrop drop1
  cases e ρ h <;> rfl
@[simp] theorem drop1_ok (ρ : Slots) (d : D) (h : MH) : drop1 ρ (.ok d h) = .nx ρ h := nr rfl
@[simp] theorem mIf_ev (c : MT) (a b : MS) (ρ : Slots) (h : MH) : mIf c a b ρ h = if1 a b ρ (c ρ h) := by
  unfold mIf if1
  cases c ρ h with
  | ok x h1 => cases x <;> rfl
  | _ => rfl
@[simp] theorem if1_t (a b : MS) (ρ : Slots) (h : MH) : if1 a b ρ (.ok true h) = a ρ h := nr rfl
@[simp] theorem if1_f (a b : MS) (ρ : Slots) (h : MH) : if1 a b ρ (.ok false h) = b ρ h := nr rfl
def for1 (tg : MG) (body : MS) (ρ : Slots) : R (List D × (MH → Bool)) → Out
  | .ok a h => forGo a.2 tg body a.1 ρ h
  | .exc x fs h => .exc x fs ρ h
  | .bad => .bad
@[simp] theorem mFor_ev (it : MI) (tg : MG) (body : MS) (ρ : Slots) (h : MH) : mFor it tg body ρ h = for1 tg body ρ (it ρ h) := by
  unfold mFor for1
  cases it ρ h <;> rfl
@[simp] theorem for1_ok (tg : MG) (body : MS) (ρ : Slots) (l : List D) (gd : MH → Bool) (h : MH) : for1 tg body ρ (.ok (l, gd) h) = forGo gd tg body l ρ h := nr rfl
def rg1 (f : Int → Nat → List D) : R D → R (List D × (MH → Bool))
  | .ok x h => dR1 f x h
  | .exc x fs h => .exc x fs h
  | .bad => .bad
@[simp] theorem mRange1_ev (a : ME) (ρ : Slots) (h : MH) : mRange1 a ρ h = rg1 rangeD (a ρ h) := by
  unfold mRange1 rg1
  cases a ρ h <;> rfl
@[simp] theorem mRev1_ev (a : ME) (ρ : Slots) (h : MH) : mRev1 a ρ h = rg1 revRangeD (a ρ h) := by
  unfold mRev1 rg1
  cases a ρ h <;> rfl
@[simp] theorem rg1_ok (f : Int → Nat → List D) (j : Int) (h : MH) : rg1 f (.ok (.int j) h) = if lim62 j = true then .ok (f 0 j.toNat, yes) h else .bad := nr rfl
def rg2 (f : Int → Nat → List D) (b : ME) (ρ : Slots) (r : R D) : R (List D × (MH → Bool)) := r.bind fun x h => (b ρ h).bind fun y h2 => dR2 f x y h2
def rg3 (f : Int → Nat → List D) (x : D) (r : R D) : R (List D × (MH → Bool)) := r.bind fun y h => dR2 f x y h
@[simp] theorem mRange2_ev (a b : ME) (ρ : Slots) (h : MH) : mRange2 a b ρ h = rg2 rangeD b ρ (a ρ h) := nr rfl
@[simp] theorem mRev2_ev (a b : ME) (ρ : Slots) (h : MH) : mRev2 a b ρ h = rg2 revRangeD b ρ (a ρ h) := nr rfl
@[simp] theorem rg2_ok (f : Int → Nat → List D) (b : ME) (ρ : Slots) (x : D) (h : MH) : rg2 f b ρ (.ok x h) = rg3 f x (b ρ h) := nr rfl
@[simp] theorem rg3_ok (f : Int → Nat → List D) (i j : Int) (h : MH) : rg3 f (.int i) (.ok (.int j) h) = if lim62 i = true ∧ lim62 j = true then .ok (f i (j - i).toNat, yes) h else .bad := nr rfl
def iter1 : R D → R (List D × (MH → Bool))
  | .ok x h => match itemsOf x h with
    | some r => .ok r h
    | none => .bad
  | .exc x fs h => .exc x fs h
  | .bad => .bad
@[simp] theorem mIter_ev (a : ME) (ρ : Slots) (h : MH) : mIter a ρ h = iter1 (a ρ h) := by
  unfold mIter iter1
  cases a ρ h <;> rfl
@[simp] theorem iter1_tup (l : List D) (h : MH) : iter1 (.ok (.tup l) h) = .ok (l, yes) h := nr rfl
@[simp] theorem iter1_str (z : Str) (h : MH) : iter1 (.ok (.str z) h) = .ok (z.cps.toList.map fun c => .str ⟨#[c]⟩, yes) h := nr rfl
theorem iter1_ref (i : Nat) (h : MH) (l : List D) (hl : getL h i = some l) : iter1 (.ok (.ref i) h) = .ok (l, fun h' => decide (getL h' i = some l)) h := by
  simp [iter1, itemsOf, hl]
@[simp] theorem yes_ev (h : MH) : yes h = true := nr rfl
@[simp] theorem mgName_ev (i : Nat) (d : D) (ρ : Slots) : mgName i d ρ = some (ρ.set i (some d)) := nr rfl
/-- a def's end -/
def fin1 : Out → R D
  | .nx _ h => .ok .non h
  | .rt d h => .ok d h
  | .exc x fs _ h => .exc x fs h
  | _ => .bad
@[simp] theorem fin1_nx (ρ : Slots) (h : MH) : fin1 (.nx ρ h) = .ok .non h := nr rfl
@[simp] theorem fin1_rt (d : D) (h : MH) : fin1 (.rt d h) = .ok d h := nr rfl
@[simp] theorem fin1_exc (x : Str) (fs : List (Str × D)) (ρ : Slots) (h : MH) : fin1 (.exc x fs ρ h) = .exc x fs h := nr rfl
@[simp] theorem rep0 : List.replicate 0 (none : Option D) = [] := nr rfl
/-! ### loops -/
theorem rangeD_get {i : Int} {n k : Nat} {d : D} (h : (rangeD i n)[k]? = some d) : k < n ∧ d = .int (i + (k : Int)) := by
  simp only [rangeD, List.getElem?_map, Option.map_eq_some_iff] at h
  obtain ⟨a, h1, h2⟩ := h
  have := List.getElem?_eq_some_iff.mp h1
  obtain ⟨lt, e⟩ := this
  simp at lt e
  subst e
  exact ⟨lt, h2.symm⟩
@[simp] theorem rangeD_length (i : Int) (n : Nat) : (rangeD i n).length = n := by simp [rangeD]
@[simp] theorem revRangeD_length (i : Int) (n : Nat) : (revRangeD i n).length = n := by simp [revRangeD]
/-! ### numbers of bits, places -/
theorem bits_lt {i : Int} {n : Nat} (h : i.natAbs < 2 ^ n) : Builtin.Int.intBits i ≤ n := by
  unfold Builtin.Int.intBits
  split
  · omega
  · rename_i hz
    have : i.natAbs.log2 < n := (Nat.log2_lt (by simpa using hz)).mpr h
    omega
theorem atI_in {α : Type} {l : List α} {i : Int} (h0 : 0 ≤ i) (h1 : i < (l.length : Int)) : ∃ c, atI l i = some c ∧ l[i.toNat]? = some c := by
  have lt : i.toNat < l.length := by omega
  refine ⟨l[i.toNat], ?_, List.getElem?_eq_getElem lt⟩
  unfold atI ixN
  rw [if_pos h0, if_pos h1]
  simp [lt]
theorem atI_at {α : Type} {l : List α} {k : Nat} {c : α} (h : l[k]? = some c) : atI l (k : Int) = some c := by
  have lt := (List.getElem?_eq_some_iff.mp h).1
  unfold atI ixN
  rw [if_pos (by omega), if_pos (by omega)]
  simpa using h
/-! ### operators at plain values -/
section
variable (i j : Int) (x y : Str) (a b : Bool) (l m : List D) (h : MH)
@[simp] theorem dAdd_int : dAdd (.int i) (.int j) h = .ok (.int (i + j)) h := nr rfl
@[simp] theorem dAdd_str : dAdd (.str x) (.str y) h = if x.length + y.length ≤ 1000000 then .ok (.str (x ++ y)) h else .bad := nr rfl
@[simp] theorem dAdd_tup : dAdd (.tup l) (.tup m) h = if l.length + m.length ≤ 1000000 then .ok (.tup (l ++ m)) h else .bad := nr rfl
@[simp] theorem dSub_int : dSub (.int i) (.int j) h = .ok (.int (i - j)) h := nr rfl
theorem dMul_int : dMul (.int i) (.int j) h = if (Builtin.Int.intBits i : Int) + (Builtin.Int.intBits j : Int) ≤ 134217728 then .ok (.int (i * j)) h else .bad := rfl
@[simp] theorem dMul_str : dMul (.str x) (.int j) h = if j ≤ 1000000 ∧ -1000000 ≤ j ∧ x.length * j.toNat ≤ 1000000 then .ok (.str (Txt.mul x j)) h else .bad := nr rfl
theorem dFdiv_int : dFdiv (.int i) (.int j) h = if 0 < j ∧ j.natAbs.log2 < 9000 then .ok (.int (i / j)) h else .bad := rfl
@[simp] theorem dMod_int : dMod (.int i) (.int j) h = if 0 < j then .ok (.int (i % j)) h else .bad := nr rfl
@[simp] theorem dFdiv_small (h0 : 0 < j) (h1 : j < 18446744073709551616) : dFdiv (.int i) (.int j) h = .ok (.int (i / j)) h := by
  rw [dFdiv_int, if_pos ⟨h0, Nat.lt_trans (PySem.Flt.log2_lt_of (k := 64) (by decide) (by omega)) (by decide)⟩]
theorem dMul_bits {a b : Nat} (ha : Builtin.Int.intBits i ≤ a) (hb : Builtin.Int.intBits j ≤ b) (hab : a + b ≤ 134217728) : dMul (.int i) (.int j) h = .ok (.int (i * j)) h := by
  rw [dMul_int, if_pos (by omega)]
theorem bits_small {i : Int} (h0 : -18446744073709551616 < i) (h1 : i < 18446744073709551616) : Builtin.Int.intBits i ≤ 64 := bits_lt (by omega)
theorem dMul_s (h0 : -18446744073709551616 < i) (h1 : i < 18446744073709551616) (h2 : -18446744073709551616 < j) (h3 : j < 18446744073709551616) : dMul (.int i) (.int j) h = .ok (.int (i * j)) h := dMul_bits i j h (bits_small h0 h1) (bits_small h2 h3) (by decide)
@[simp] theorem dPow_int : dPow (.int i) (.int j) h = if 0 ≤ j ∧ j ≤ 1000000 ∧ i.natAbs < 2 ^ 64 then .ok (.int (i ^ j.toNat)) h else .bad := nr rfl
@[simp] theorem dShl_int : dShl (.int i) (.int j) h = if 0 ≤ j ∧ j ≤ 1000000 ∧ i.natAbs < 2 ^ 64 then .ok (.int (i * 2 ^ j.toNat)) h else .bad := nr rfl
@[simp] theorem dLt_int : dLt (.int i) (.int j) h = .ok (.bl (decide (i < j))) h := nr rfl
@[simp] theorem dLe_int : dLe (.int i) (.int j) h = .ok (.bl (decide (i ≤ j))) h := nr rfl
@[simp] theorem dGt_int : dGt (.int i) (.int j) h = .ok (.bl (decide (j < i))) h := nr rfl
@[simp] theorem dGe_int : dGe (.int i) (.int j) h = .ok (.bl (decide (j ≤ i))) h := nr rfl
@[simp] theorem dNeg_int : dNeg (.int i) h = .ok (.int (-i)) h := nr rfl
@[simp] theorem eqD_int : eqD (.int i) (.int j) h = some (decide (i = j)) := by
  simp [eqD, scalD]
@[simp] theorem eqD_str : eqD (.str x) (.str y) h = some (decide (x = y)) := by
  simp [eqD, scalD]
@[simp] theorem eqD_bl : eqD (.bl a) (.bl b) h = some (decide (a = b)) := by
  simp [eqD, scalD]
@[simp] theorem eqD_non : eqD .non .non h = some true := by
  simp [eqD, scalD]
@[simp] theorem eqD_int_non : eqD (.int i) .non h = some false := by
  simp [eqD, scalD]
@[simp] theorem eqD_non_int : eqD .non (.int i) h = some false := by
  simp [eqD, scalD]
theorem dEq_of {a b : D} {k : Bool} {h : MH} (e : eqD a b h = some k) : dEq a b h = .ok (.bl k) h := by unfold dEq; rw [e]
theorem dNe_of {a b : D} {k : Bool} {h : MH} (e : eqD a b h = some k) : dNe a b h = .ok (.bl (!k)) h := by unfold dNe; rw [e]
@[simp] theorem dEq_int : dEq (.int i) (.int j) h = .ok (.bl (decide (i = j))) h := dEq_of (eqD_int i j h)
@[simp] theorem dNe_int : dNe (.int i) (.int j) h = .ok (.bl (!decide (i = j))) h := dNe_of (eqD_int i j h)
@[simp] theorem dEq_str : dEq (.str x) (.str y) h = .ok (.bl (decide (x = y))) h := dEq_of (eqD_str x y h)
@[simp] theorem dNe_str : dNe (.str x) (.str y) h = .ok (.bl (!decide (x = y))) h := dNe_of (eqD_str x y h)
@[simp] theorem dEq_bl : dEq (.bl a) (.bl b) h = .ok (.bl (decide (a = b))) h := dEq_of (eqD_bl a b h)
@[simp] theorem dIsN_ev (d : D) : dIsN d .non h = .ok (.bl (decide (d = .non))) h := nr rfl
@[simp] theorem dNotN_ev (d : D) : dNotN d .non h = .ok (.bl (!decide (d = .non))) h := nr rfl
@[simp] theorem dLen_str : dLen [.str x] h = if x.length ≤ 1000000 then .ok (.int x.length) h else .bad := nr rfl
@[simp] theorem dLen_tup : dLen [.tup l] h = .ok (.int l.length) h := nr rfl
theorem dLen_ref {i : Nat} {h : MH} {l : List D} (e : getL h i = some l) : dLen [.ref i] h = .ok (.int l.length) h := by simp [dLen, e]
@[simp] theorem dAbs_ev : dAbs [.int i] h = .ok (.int (if i < 0 then -i else i)) h := nr rfl
@[simp] theorem dMax_ev : dMax [.int i, .int j] h = .ok (.int (if j > i then j else i)) h := nr rfl
@[simp] theorem dMin_ev : dMin [.int i, .int j] h = .ok (.int (if j < i then j else i)) h := nr rfl
@[simp] theorem dInt_int : dInt [.int i] h = .ok (.int i) h := nr rfl
@[simp] theorem dInt_bl : dInt [.bl a] h = .ok (.int (if a then 1 else 0)) h := nr rfl
@[simp] theorem dSl_str (lo hi : Option Int) : dSl (.str x) lo hi h = if x.length ≤ 1000000 then .ok (.str (cutS x lo hi)) h else .bad := nr rfl
@[simp] theorem dSl_tup (lo hi : Option Int) : dSl (.tup l) lo hi h = .ok (.tup (cutD l lo hi)) h := nr rfl
theorem dIx_str {c : Nat} {x : Str} {i : Int} (hz : x.length ≤ 1000000) (e : atI x.cps.toList i = some c) : dIx (.str x) (.int i) h = .ok (.str ⟨#[c]⟩) h := by
  simp [dIx, hz, e]
theorem dIx_tup {d : D} {l : List D} {i : Int} (e : atI l i = some d) : dIx (.tup l) (.int i) h = .ok d h := by simp [dIx, seqOf, e]
theorem dIx_ref {d : D} {l : List D} {k : Nat} {i : Int} {h : MH} (hl : getL h k = some l) (e : atI l i = some d) : dIx (.ref k) (.int i) h = .ok d h := by simp [dIx, seqOf, hl, e]
end
end Mi
namespace Mi
open PySem L2

/-! ### zip of two lists -/
def zipD (l m : List D) : List D := (l.zip m).map fun p => .tup [p.1, p.2]
def mZip (a b : ME) : MI := fun ρ h => (a ρ h).bind fun x h1 => (b ρ h1).bind fun y h2 => match x, y with
  | .ref i, .ref j => match getL h2 i, getL h2 j with
    | some l, some m => .ok (zipD l m, fun h' => decide (getL h' i = some l) && decide (getL h' j = some m)) h2
    | _, _ => .bad
  | _, _ => .bad
section
variable {X : Cx} {g : G} {W : WX} {a b : Expr} {ma mb : ME} {pos : Pos}
/-! ### xs[::-1], list(range(..)) -/
def dRevL (x : D) (h : MH) : R D := match x with
  | .ref i => match getL h i with
    | some l => .ok (.ref h.length) (h ++ [.lst l.reverse])
    | none => .bad
  | _ => .bad
def mRevL (a : ME) : ME := mUn dRevL a
def lstRg (i j : Int) (h : MH) : R D := if 0 ≤ i ∧ j ≤ 1000000 ∧ i ≤ 1000000 ∧ 0 ≤ j then .ok (.ref h.length) (h ++ [.lst (rangeD i (j - i).toNat)]) else .bad
def mListRg1 (a : ME) : ME := mUn (fun x h => match x with
  | .int j => lstRg 0 j h
  | _ => .bad) a
def mListRg2 (a b : ME) : ME := mBin (fun x y h => match x, y with
  | .int i, .int j => lstRg i j h
  | _, _ => .bad) a b
/-! ### t.index(x) -/
def fidx (z : Str) : List Str → Option Nat
  | [] => none
  | y :: r => if y = z then some 0 else (fidx z r).map (· + 1)
theorem fidx_some {z : Str} : ∀ {l : List Str} {j : Nat}, fidx z l = some j → l[j]? = some z ∧ ∀ m, m < j → l[m]? ≠ some z
  | [], _, h => by cases h
  | y :: r, j, h => by
    unfold fidx at h
    split at h
    · rename_i e
      cases h
      subst e
      exact ⟨rfl, fun m hm => absurd hm (Nat.not_lt_zero m)⟩
    · rename_i e
      obtain ⟨k, hk, rfl⟩ := Option.map_eq_some_iff.mp h
      obtain ⟨h1, h2⟩ := fidx_some hk
      refine ⟨by simpa using h1, fun m hm => ?_⟩
      cases m with
      | zero => simp only [List.getElem?_cons_zero]; intro q; exact e (Option.some.inj q)
      | succ m => simpa using h2 m (by omega)
def dTIdx (x y : D) (h : MH) : R D := match x, y with
  | .tup l, .str z => match allStr l with
    | some ys => match fidx z ys with
      | some j => .ok (.int j) h
      | none => .bad
    | none => .bad
  | _, _ => .bad
def mTIndex (a b : ME) : ME := fun ρ h => (a ρ h).bind fun x h1 => match x with
  | .tup l => (b ρ h1).bind fun y h2 => dTIdx (.tup l) y h2
  | _ => .bad
theorem Tk.obj {pins : List (Addr × Obj)} {σ : St} {H : Hp} {s : Shared} {p : Addr} {xs : List V} (I : Inv X pins σ H s) (h : Tk X.K H p xs) : s.TypeIs (.ref p) "tuple" ∧ ∃ ob, s.heap.get? p = some ob ∧ ob.dict = none := by
  rcases h with ⟨ob, hd, h⟩ | ⟨ob, ws, n, h1, h2, h3, _⟩
  · obtain ⟨e, _, ws, _, ob', e', c, _⟩ := (show ObjOk X.prog X.w H s.heap p (.frz ob (.tup xs)) from I.hok p _ h)
    rw [e] at e'
    cases e'
    exact ⟨⟨ob, e, c⟩, ob, e, hd⟩
  · exact ⟨⟨ob, I.kIn p ob h1, h2⟩, ob, I.kIn p ob h1, h3⟩
theorem pe_tidx {o e : Expr} {to : TE} {t : TA} {apos : Pos} {r : V → List V → Hp → VK → Prop} (hm : MtR X "tuple.index" r) (ho : PE X o to) (ha : PA X [e] t)
    (hbase : attributeBase o "index" X.env (eval o X.env) = eval o X.env := by rfl)
    (hfew : ((backTo pos (starEach [e] X.env)).all (fun x => !x.1) && (backToKw pos (keywordEach [] X.env)).all (fun x => x.1.isSome)
      && decide (([e] : List Expr).length + ([] : List Keyword).length + (if ([] : List Keyword).isEmpty then 0 else 1) < 30)) = true := by rfl)
    (hline : (apos.endLine == pos.line) = true := by rfl) (hs : starEach [e] X.env = (false, eval e X.env) :: starEach [] X.env := by rfl) (hplain : (backTo pos (starEach [] X.env)).any (·.1) = false := by rfl) :
    PE X (.Call (.Attribute o "index" apos) [e] [] pos) (fun σ H Q => to σ H fun x H1 => (∃ p xs, x = .ref p ∧ Tk X.K H1 p xs) ∧ t σ H1 fun xs H2 => r x xs H2 Q) := by
  refine ⟨fun pins s σ H Q I hh => ?_⟩
  refine wpAny_Call_method_late hbase hfew hline rfl (thn (ho.run pins s σ H _ I hh) fun v s1 ⟨x, H1, I1, r1, ⟨p, xs, ex, tk⟩, q1⟩ => ?_)
  subst ex
  cases r1
  obtain ⟨ty, ob, e1, e2⟩ := Tk.obj I1 tk
  refine ⟨"tuple", "tuple.index", PySem.F.plainAttrs_tuple, PySem.F.slot_tuple_index, PySem.F.type_tuple_index, ty, fun a ea => by cases ea; exact ⟨ob, e1, e2⟩, ?_⟩
  have hA := ha.run pos pins s1 σ H1 _ I1 q1
  rw [hs] at hA ⊢
  refine Calls.callWith_builtin (by show (false || (backTo pos (starEach [] X.env)).any (·.1)) = false; rw [hplain] <;> rfl) (Calls.evalArgs_plain ?_)
  exact thn hA fun us s2 ⟨vs, H2, I2, r2, q2⟩ => hm pins s2 σ H2 (.ref p) vs _ us Q I2 rfl r2 q2
theorem se_tindex {apos : Pos} (ha : PE X a (tE g W ma)) (hb : PE X b (tE g W mb)) (hK : X.K = g.K := by rfl)
    (hbase : attributeBase a "index" X.env (eval a X.env) = eval a X.env := by rfl)
    (hfew : ((backTo pos (starEach [b] X.env)).all (fun x => !x.1) && (backToKw pos (keywordEach [] X.env)).all (fun x => x.1.isSome)
      && decide (([b] : List Expr).length + ([] : List Keyword).length + (if ([] : List Keyword).isEmpty then 0 else 1) < 30)) = true := by rfl)
    (hline : (apos.endLine == pos.line) = true := by rfl) (hs : starEach [b] X.env = (false, eval b X.env) :: starEach [] X.env := by rfl) (hplain : (backTo pos (starEach [] X.env)).any (·.1) = false := by rfl) :
    PE X (.Call (.Attribute a "index" apos) [b] [] pos) (tE g W (mTIndex ma mb)) :=
  pe_mono (pe_tidx mt_tup_index ha (pa_cons hb pa_nil hs) hbase hfew hline hs hplain) fun σ H Q ⟨ρ, h, μ, sr, hr, bk⟩ => step (rel := VR) (rel' := VR) (ma := ma) (Q' := Q) sr hr bk fun x d h1 H1 μ1 m1 sr1 hr1 vx bk1 => by
    cases vx with
    | @tup p xs l hs vs =>
      refine ⟨⟨p, xs, rfl, by rw [hK]; exact hs⟩, ?_⟩
      refine step (rel := VR) (rel' := VR) (ma := mb) (Q' := Q) sr1 hr1 bk1 fun y d2 h2 H2 μ2 m2 sr2 hr2 vy bk2 => ?_
      cases vy with
      | str z =>
        simp only [dTIdx] at bk2
        split at bk2
        · rename_i ys e1
          split at bk2
          · rename_i j e2
            obtain ⟨h3, h4⟩ := fidx_some e2
            refine ⟨p, ys, z, j, rfl, rfl, ?_, h3, h4, bk2.val hr2 (.int _)⟩
            rw [← strs_of vs e1, hK]
            exact (m2.tups _ _ hs).sq
          · exact bk2.elim
        · exact bk2.elim
      | _ => exact bk2.elim
    | _ => exact bk1.elim
end
/-! ### sorted: ints, texts (fewer than 64) -/
abbrev ltC : List Nat → List Nat → Bool := PySem.Spec.ltCps
theorem ltC_asym : ∀ l m : List Nat, ltC l m = false → ltC m l = false → l = m
  | [], [], _, _ => rfl
  | [], _ :: _, h, _ => by simp [ltC, PySem.Spec.ltCps] at h
  | _ :: _, [], _, h => by simp [ltC, PySem.Spec.ltCps] at h
  | a :: r, b :: t, h1, h2 => by
    simp only [ltC, PySem.Spec.ltCps, Bool.or_eq_false_iff, decide_eq_false_iff_not, Bool.and_eq_false_iff, beq_eq_false_iff_ne] at h1 h2
    have e : a = b := by omega
    subst e
    have h3 : ltC r t = false := h1.2.resolve_left (fun z => z rfl)
    have h4 : ltC t r = false := h2.2.resolve_left (fun z => z rfl)
    rw [ltC_asym r t h3 h4]
theorem ltC_trans : ∀ l m n : List Nat, ltC m l = false → ltC n m = false → ltC n l = false
  | [], [], [], _, _ => rfl
  | [], [], _ :: _, _, h => h
  | [], b :: t, [], _, h => by simp [ltC, PySem.Spec.ltCps] at h
  | [], b :: t, c :: u, h, _ => by simp [ltC, PySem.Spec.ltCps]
  | a :: r, [], _, h, _ => by simp [ltC, PySem.Spec.ltCps] at h
  | a :: r, b :: t, [], _, h => by simp [ltC, PySem.Spec.ltCps] at h
  | a :: r, b :: t, c :: u, h1, h2 => by
    simp only [ltC, PySem.Spec.ltCps, Bool.or_eq_false_iff, decide_eq_false_iff_not, Bool.and_eq_false_iff, beq_eq_false_iff_ne] at h1 h2 ⊢
    refine ⟨by omega, ?_⟩
    by_cases e : c = a
    · right
      have e1 : b = a := by omega
      have e2 : c = b := by omega
      exact ltC_trans r t u (h1.2.resolve_left (fun z => z e1)) (h2.2.resolve_left (fun z => z e2))
    · exact .inl e
theorem ltC_total : ∀ l m : List Nat, ltC l m = false ∨ ltC m l = false
  | [], [] => .inl rfl
  | [], _ :: _ => .inr rfl
  | _ :: _, [] => .inl rfl
  | a :: r, b :: t => by
    simp only [ltC, PySem.Spec.ltCps, Bool.or_eq_false_iff, decide_eq_false_iff_not, Bool.and_eq_false_iff, beq_eq_false_iff_ne]
    rcases Nat.lt_trichotomy a b with h | h | h
    · exact .inr ⟨by omega, .inl (by omega)⟩
    · subst h
      rcases ltC_total r t with q | q
      · exact .inl ⟨by omega, .inr q⟩
      · exact .inr ⟨by omega, .inr q⟩
    · exact .inl ⟨by omega, .inl (by omega)⟩
def leS (a b : Str) : Bool := !ltC b.cps.toList a.cps.toList
theorem leS_trans (a b c : Str) (h1 : leS a b = true) (h2 : leS b c = true) : leS a c = true := by
  simp only [leS, Bool.not_eq_true'] at h1 h2 ⊢
  exact ltC_trans _ _ _ h1 h2
theorem leS_total (a b : Str) : (leS a b || leS b a) = true := by
  rw [Bool.or_eq_true]
  simp only [leS, Bool.not_eq_true']
  rcases ltC_total b.cps.toList a.cps.toList with h | h
  · exact .inl h
  · exact .inr h
theorem leS_asym (a b : Str) (h1 : leS a b = true) (h2 : leS b a = true) : a = b := by
  simp only [leS, Bool.not_eq_true'] at h1 h2
  have e := ltC_asym _ _ h2 h1
  obtain ⟨⟨a⟩⟩ := a
  obtain ⟨⟨b⟩⟩ := b
  have : a = b := e
  rw [this]
def sortS (l : List Str) : List Str := l.mergeSort leS
def sortI (l : List Int) : List Int := l.mergeSort fun a b => decide (a ≤ b)
def allInt : List D → Option (List Int)
  | [] => some []
  | .int b :: r => (allInt r).map (b :: ·)
  | _ => none
theorem ints_of {g : G} {H : Hp} {μ : List Addr} : ∀ {xs : List V} {ds : List D} {bs : List Int}, VRs g H μ xs ds → allInt ds = some bs → xs = bs.map V.int
  | _, _, _, .nil, e => by cases e; rfl
  | _, _, _, .cons (d := d) a b, e => by
    cases a with
    | int k =>
      simp only [allInt, Option.map_eq_some_iff] at e
      obtain ⟨r, e, rfl⟩ := e
      rw [ints_of b e]; rfl
    | _ => cases e
theorem vrs_strs {g : G} {H : Hp} {μ : List Addr} : ∀ ns : List Str, VRs g H μ (ns.map V.str) (ns.map D.str)
  | [] => .nil
  | n :: ns => .cons (.str n) (vrs_strs ns)
def dSorted : List D → MH → R D
  | [.ref i], h => match getL h i with
    | some l => if l.length < 64 then match allStr l with
      | some ys => .ok (.ref h.length) (h ++ [.lst ((sortS ys).map .str)])
      | none => match allInt l with
        | some ys => .ok (.ref h.length) (h ++ [.lst ((sortI ys).map .int)])
        | none => .bad else .bad
    | none => .bad
  | _, _ => .bad
section
variable {X : Cx} {g : G}
end
end Mi

/-! A calculus for the mirror: what must hold ahead of a part so that a thing holds behind it. -/
namespace Mi
open PySem L2
abbrev XE := Str → List (Str × D) → MH → Prop
@[irreducible] def Sat {α : Type} (r : R α) (Q : α → MH → Prop) (E : XE) : Prop := match r with
  | .ok d h => Q d h
  | .exc x fs h => E x fs h
  | .bad => False
abbrev SP := Slots → MH → Prop
abbrev SX := Str → List (Str × D) → Slots → MH → Prop
@[irreducible] def OS (o : Out) (N : SP) (T : D → MH → Prop) (B C : SP) (E : SX) : Prop := match o with
  | .nx ρ h => N ρ h
  | .rt d h => T d h
  | .bk ρ h => B ρ h
  | .ct ρ h => C ρ h
  | .exc x fs ρ h => E x fs ρ h
  | .bad => False
abbrev noX : XE := fun _ _ _ => False
abbrev noS : SP := fun _ _ => False
section
variable {α : Type} {Q : α → MH → Prop} {E : XE}
theorem Sat_ok (d : α) (h : MH) : Sat (.ok d h) Q E = Q d h := by unfold Sat; rfl
theorem Sat_exc (x : Str) (fs : List (Str × D)) (h : MH) : Sat (.exc x fs h : R α) Q E = E x fs h := by unfold Sat; rfl
theorem Sat_bad : Sat (.bad : R α) Q E = False := by unfold Sat; rfl
variable {N : SP} {T : D → MH → Prop} {B C : SP} {Es : SX}
theorem OS_nx (ρ : Slots) (h : MH) : OS (.nx ρ h) N T B C Es = N ρ h := by unfold OS; rfl
theorem OS_rt (d : D) (h : MH) : OS (.rt d h) N T B C Es = T d h := by unfold OS; rfl
theorem OS_bk (ρ : Slots) (h : MH) : OS (.bk ρ h) N T B C Es = B ρ h := by unfold OS; rfl
theorem OS_ct (ρ : Slots) (h : MH) : OS (.ct ρ h) N T B C Es = C ρ h := by unfold OS; rfl
theorem OS_exc (x : Str) (fs : List (Str × D)) (ρ : Slots) (h : MH) : OS (.exc x fs ρ h) N T B C Es = Es x fs ρ h := by unfold OS; rfl
theorem OS_bad : OS .bad N T B C Es = False := by unfold OS; rfl
end
theorem Sat.monoE {α : Type} {r : R α} {Q Q' : α → MH → Prop} {E E' : XE} (s : Sat r Q E) (k : ∀ d h, Q d h → Q' d h) (k' : ∀ x fs h, E x fs h → E' x fs h) : Sat r Q' E' := by
  cases r with
  | ok d h => rw [Sat_ok] at s ⊢; exact k d h s
  | exc x fs h => rw [Sat_exc] at s ⊢; exact k' x fs h s
  | _ => rw [Sat_bad] at s; exact s.elim
theorem Sat.mono {α : Type} {r : R α} {Q Q' : α → MH → Prop} {E : XE} (s : Sat r Q noX) (k : ∀ d h, Q d h → Q' d h) : Sat r Q' E := s.monoE k fun _ _ _ z => z.elim
theorem Sat.get {α : Type} {r : R α} {Q : α → MH → Prop} (s : Sat r Q noX) : ∃ d h, r = .ok d h ∧ Q d h := by
  cases r with
  | ok d h => rw [Sat_ok] at s; exact ⟨d, h, rfl, s⟩
  | exc x fs h => rw [Sat_exc] at s; exact s.elim
  | _ => rw [Sat_bad] at s; exact s.elim
theorem Sat.bnd {α β : Type} {r : R α} {f : α → MH → R β} {Q : β → MH → Prop} {E : XE} (s : Sat r (fun x h => Sat (f x h) Q E) E) : Sat (r.bind f) Q E := by
  cases r with
  | ok d h => rw [Sat_ok] at s; exact s
  | exc x fs h => rw [Sat_exc] at s; show Sat (.exc x fs h) Q E; rw [Sat_exc]; exact s
  | _ => rw [Sat_bad] at s; exact s.elim
theorem Sat.ot {α : Type} {r : R α} {ρ : Slots} {f : α → MH → Out} {N : SP} {T : D → MH → Prop} {B C : SP} {E : SX} (s : Sat r (fun x h => OS (f x h) N T B C E) (fun x fs h => E x fs ρ h)) : OS (r.out ρ f) N T B C E := by
  cases r with
  | ok d h => rw [Sat_ok] at s; exact s
  | exc x fs h => rw [Sat_exc] at s; show OS (.exc x fs ρ h) N T B C E; rw [OS_exc]; exact s
  | _ => rw [Sat_bad] at s; exact s.elim
theorem OS.mono {o : Out} {N N' : SP} {T T' : D → MH → Prop} {B B' C C' : SP} {E E' : SX} (s : OS o N T B C E) (kn : ∀ ρ h, N ρ h → N' ρ h) (kt : ∀ d h, T d h → T' d h) (kb : ∀ ρ h, B ρ h → B' ρ h) (kc : ∀ ρ h, C ρ h → C' ρ h) (ke : ∀ x fs ρ h, E x fs ρ h → E' x fs ρ h) : OS o N' T' B' C' E' := by
  cases o with
  | nx ρ h => rw [OS_nx] at s ⊢; exact kn ρ h s
  | rt d h => rw [OS_rt] at s ⊢; exact kt d h s
  | bk ρ h => rw [OS_bk] at s ⊢; exact kb ρ h s
  | ct ρ h => rw [OS_ct] at s ⊢; exact kc ρ h s
  | exc x fs ρ h => rw [OS_exc] at s ⊢; exact ke x fs ρ h s
  | bad => rw [OS_bad] at s; exact s.elim
theorem w_ok {α : Type} {Q : α → MH → Prop} {E : XE} {h : MH} {d : α} (q : Q d h) : Sat (.ok d h) Q E := by rw [Sat_ok]; exact q
theorem w_eq {α : Type} {Q : α → MH → Prop} {E : XE} {x : R α} {d : α} {h' : MH} (e : x = .ok d h') (q : Q d h') : Sat x Q E := by rw [e]; exact w_ok q
theorem w_nx {N : SP} {T : D → MH → Prop} {B C : SP} {E : SX} {ρ : Slots} {h : MH} (q : N ρ h) : OS (.nx ρ h) N T B C E := by rw [OS_nx]; exact q
theorem w_rt {N : SP} {T : D → MH → Prop} {B C : SP} {E : SX} {d : D} {h : MH} (q : T d h) : OS (.rt d h) N T B C E := by rw [OS_rt]; exact q
theorem w_bk {N : SP} {T : D → MH → Prop} {B C : SP} {E : SX} {ρ : Slots} {h : MH} (q : B ρ h) : OS (.bk ρ h) N T B C E := by rw [OS_bk]; exact q
theorem w_ct {N : SP} {T : D → MH → Prop} {B C : SP} {E : SX} {ρ : Slots} {h : MH} (q : C ρ h) : OS (.ct ρ h) N T B C E := by rw [OS_ct]; exact q
def Br (p A B : Prop) : Prop := (p → A) ∧ (¬p → B)
theorem br_t {p A B : Prop} (hp : p) (a : A) : Br p A B := ⟨fun _ => a, fun n => absurd hp n⟩
theorem br_f {p A B : Prop} (hp : ¬p) (b : B) : Br p A B := ⟨fun n => absurd n hp, fun _ => b⟩
theorem br_d {p : Prop} [Decidable p] {A B : Prop} (a : p → A) (b : ¬p → B) : Br (decide p = true) A B := ⟨fun n => a (of_decide_eq_true n), fun n => b (of_decide_eq_false (by simpa using n))⟩
theorem br_n {b : Bool} {A B : Prop} (a : Br (b = true) B A) : Br ((!b) = true) A B := ⟨fun n => a.2 (by simp at n; simp [n]), fun n => a.1 (by simpa using n)⟩
theorem br_dt {p : Prop} [Decidable p] {A B : Prop} (hp : p) (a : A) : Br (decide p = true) A B := br_t (decide_eq_true hp) a
theorem br_df {p : Prop} [Decidable p] {A B : Prop} (hp : ¬p) (a : B) : Br (decide p = true) A B := br_f (by simp [hp]) a
theorem br_tt {A B : Prop} (a : A) : Br (true = true) A B := br_t rfl a
theorem br_ff {A B : Prop} (b : B) : Br (false = true) A B := br_f (by decide) b
section
variable {α : Type} {Q : D → MH → Prop} {QA : List D → MH → Prop} {QB : Bool → MH → Prop} {QP : Option Int → MH → Prop} {QI : List D × (MH → Bool) → MH → Prop} {E : XE} {ρ : Slots} {h : MH} {a b c e : ME} {r : MA} {ta tb : MT} {lo hi : MP}
theorem w_var {i : Nat} {d : D} (e : ρ[i]? = some (some d)) (q : Q d h) : Sat (mVar i ρ h) Q E := by
  unfold mVar
  rw [e]
  exact w_ok q
theorem w_c {d : D} (q : Q d h) : Sat (mC d ρ h) Q E := w_ok q
theorem w_bin {f : D → D → MH → R D} (q : Sat (a ρ h) (fun x h1 => Sat (b ρ h1) (fun y h2 => Sat (f x y h2) Q E) E) E) : Sat (mBin f a b ρ h) Q E := Sat.bnd (q.monoE (fun _ _ z => Sat.bnd z) fun _ _ _ z => z)
theorem w_un {f : D → MH → R D} (q : Sat (a ρ h) (fun x h1 => Sat (f x h1) Q E) E) : Sat (mUn f a ρ h) Q E := Sat.bnd q
theorem w_nil (q : QA [] h) : Sat (mNil ρ h) QA E := w_ok q
theorem w_cons (q : Sat (a ρ h) (fun x h1 => Sat (r ρ h1) (fun xs h2 => QA (x :: xs) h2) E) E) : Sat (mCons a r ρ h) QA E := Sat.bnd (q.monoE (fun _ _ z => Sat.bnd (z.monoE (fun _ _ z => w_ok z) fun _ _ _ z => z)) fun _ _ _ z => z)
def toTup (xs : List D) (h1 : MH) : R D := if xs.length ≤ 1000000 then .ok (.tup xs) h1 else .bad
def toLst (xs : List D) (h1 : MH) : R D := if xs.length ≤ 1000000 then .ok (.ref h1.length) (h1 ++ [.lst xs]) else .bad
theorem w_tup (q : Sat (r ρ h) (fun xs h1 => Sat (toTup xs h1) Q E) E) : Sat (mTup r ρ h) Q E := Sat.bnd q
theorem w_lst (q : Sat (r ρ h) (fun xs h1 => Sat (toLst xs h1) Q E) E) : Sat (mLst r ρ h) Q E := Sat.bnd q
theorem w_toTup {xs : List D} (l : xs.length ≤ 1000000) (q : Q (.tup xs) h) : Sat (toTup xs h) Q E := by unfold toTup; rw [if_pos l]; exact w_ok q
theorem w_toLst {xs : List D} (l : xs.length ≤ 1000000) (q : Q (.ref h.length) (h ++ [.lst xs])) : Sat (toLst xs h) Q E := by unfold toLst; rw [if_pos l]; exact w_ok q
theorem w_call {F : List D → MH → R D} (q : Sat (r ρ h) (fun xs h1 => Sat (F xs h1) Q E) E) : Sat (mCall F r ρ h) Q E := Sat.bnd q
def unB (x : D) (h1 : MH) : R Bool := match x with
  | .bl b => .ok b h1
  | _ => .bad
theorem w_B (q : Sat (a ρ h) (fun x h1 => Sat (unB x h1) QB E) E) : Sat (mB a ρ h) QB E := by
  refine Sat.bnd (q.monoE (fun x _ z => ?_) fun _ _ _ z => z)
  cases x <;> exact z
theorem w_unB {b : Bool} (q : QB b h) : Sat (unB (.bl b) h) QB E := w_ok q
theorem br_if {p : Prop} [Decidable p] {α : Type} {x y : R α} {Q : α → MH → Prop} (q : Br p (Sat x Q E) (Sat y Q E)) : Sat (if p then x else y) Q E := by
  split
  · rename_i hp; exact q.1 hp
  · rename_i hp; exact q.2 hp
theorem w_and (q : Sat (ta ρ h) (fun x h1 => Br (x = true) (Sat (tb ρ h1) QB E) (QB false h1)) E) : Sat (mAnd ta tb ρ h) QB E := Sat.bnd (q.monoE (fun _ _ z => br_if ⟨z.1, fun n => w_ok (z.2 n)⟩) fun _ _ _ z => z)
theorem w_or (q : Sat (ta ρ h) (fun x h1 => Br (x = true) (QB true h1) (Sat (tb ρ h1) QB E)) E) : Sat (mOr ta tb ρ h) QB E := Sat.bnd (q.monoE (fun _ _ z => br_if ⟨fun n => w_ok (z.1 n), z.2⟩) fun _ _ _ z => z)
theorem w_not (q : Sat (ta ρ h) (fun x h1 => QB (!x) h1) E) : Sat (mNot ta ρ h) QB E := Sat.bnd (q.monoE (fun _ _ z => w_ok z) fun _ _ _ z => z)
def andK (b : ME) (ρ : Slots) (x : D) (h1 : MH) : R D := match x with
  | .bl true => b ρ h1
  | .bl false => .ok (.bl false) h1
  | _ => .bad
def orK (b : ME) (ρ : Slots) (x : D) (h1 : MH) : R D := match x with
  | .bl false => b ρ h1
  | .bl true => .ok (.bl true) h1
  | _ => .bad
def notK (x : D) (h1 : MH) : R D := match x with
  | .bl b => .ok (.bl (!b)) h1
  | _ => .bad
theorem w_andV (q : Sat (a ρ h) (fun x h1 => Sat (andK b ρ x h1) Q E) E) : Sat (mAndV a b ρ h) Q E := Sat.bnd q
theorem w_orV (q : Sat (a ρ h) (fun x h1 => Sat (orK b ρ x h1) Q E) E) : Sat (mOrV a b ρ h) Q E := Sat.bnd q
theorem w_notV (q : Sat (a ρ h) (fun x h1 => Sat (notK x h1) Q E) E) : Sat (mNotV a ρ h) Q E := Sat.bnd q
theorem w_andK {k : Bool} (q : Br (k = true) (Sat (b ρ h) Q E) (Q (.bl false) h)) : Sat (andK b ρ (.bl k) h) Q E := by
  cases k
  · exact w_ok (q.2 (by decide))
  · exact q.1 rfl
theorem w_orK {k : Bool} (q : Br (k = true) (Q (.bl true) h) (Sat (b ρ h) Q E)) : Sat (orK b ρ (.bl k) h) Q E := by
  cases k
  · exact q.2 (by decide)
  · exact w_ok (q.1 rfl)
theorem w_notK {k : Bool} (q : Q (.bl (!k)) h) : Sat (notK (.bl k) h) Q E := w_ok q
theorem w_ifE (q : Sat (ta ρ h) (fun x h1 => Br (x = true) (Sat (a ρ h1) Q E) (Sat (b ρ h1) Q E)) E) : Sat (mIfE ta a b ρ h) Q E := Sat.bnd (q.monoE (fun _ _ z => br_if z) fun _ _ _ z => z)
theorem w_sl (q : Sat (a ρ h) (fun x h1 => Sat (lo ρ h1) (fun l h2 => Sat (hi ρ h2) (fun u h3 => Sat (dSl x l u h3) Q E) E) E) E) : Sat (mSl a lo hi ρ h) Q E :=
  Sat.bnd (q.monoE (fun _ _ z => Sat.bnd (z.monoE (fun _ _ z => Sat.bnd z) fun _ _ _ z => z)) fun _ _ _ z => z)
theorem w_no (q : QP none h) : Sat (mNo ρ h) QP E := w_ok q
def unI (x : D) (h1 : MH) : R (Option Int) := match x with
  | .int i => .ok (some i) h1
  | _ => .bad
theorem w_some (q : Sat (a ρ h) (fun x h1 => Sat (unI x h1) QP E) E) : Sat (mSome a ρ h) QP E := by
  refine Sat.bnd (q.monoE (fun x _ z => ?_) fun _ _ _ z => z)
  cases x <;> exact z
theorem w_unI {i : Int} (q : QP (some i) h) : Sat (unI (.int i) h) QP E := w_ok q
theorem w_meth {T : D → MH → Bool} {f : D → List D → MH → R D} (q : Sat (a ρ h) (fun x h1 => T x h1 = true ∧ Sat (r ρ h1) (fun xs h2 => Sat (f x xs h2) Q E) E) E) : Sat (mMeth T f a r ρ h) Q E :=
  Sat.bnd (q.monoE (fun _ _ z => by
    rw [if_pos z.1]
    exact Sat.bnd z.2) fun _ _ _ z => z)
theorem w_isi {T : String} (q : Sat (a ρ h) (fun x h1 => Sat (isi1 T (.ok x h1)) Q E) E) : Sat (mIsi T a ρ h) Q E := Sat.bnd q
def iterK (x : D) (h1 : MH) : R (List D × (MH → Bool)) := iter1 (.ok x h1)
theorem w_iter (q : Sat (a ρ h) (fun x h1 => Sat (iter1 (.ok x h1)) QI E) E) : Sat (mIter a ρ h) QI E := Sat.bnd q
theorem w_range1 (q : Sat (a ρ h) (fun x h1 => Sat (dR1 rangeD x h1) QI E) E) : Sat (mRange1 a ρ h) QI E := Sat.bnd q
theorem w_rev1 (q : Sat (a ρ h) (fun x h1 => Sat (dR1 revRangeD x h1) QI E) E) : Sat (mRev1 a ρ h) QI E := Sat.bnd q
theorem w_range2 (q : Sat (a ρ h) (fun x h1 => Sat (b ρ h1) (fun y h2 => Sat (dR2 rangeD x y h2) QI E) E) E) : Sat (mRange2 a b ρ h) QI E := Sat.bnd (q.monoE (fun _ _ z => Sat.bnd z) fun _ _ _ z => z)
theorem w_rev2 (q : Sat (a ρ h) (fun x h1 => Sat (b ρ h1) (fun y h2 => Sat (dR2 revRangeD x y h2) QI E) E) E) : Sat (mRev2 a b ρ h) QI E := Sat.bnd (q.monoE (fun _ _ z => Sat.bnd z) fun _ _ _ z => z)
theorem lim_in {j : Int} (h0 : -1000000000000000000 ≤ j) (h1 : j ≤ 1000000000000000000) : lim62 j = true := by unfold lim62; simp; omega
theorem w_dR1 {f : Int → Nat → List D} {j : Int} (l : -1000000000000000000 ≤ j ∧ j ≤ 1000000000000000000) (q : QI (f 0 j.toNat, yes) h) : Sat (dR1 f (.int j) h) QI E := by
  unfold dR1; simp only [lim_in l.1 l.2, if_true]; exact w_ok q
theorem w_dR2 {f : Int → Nat → List D} {i j : Int} (l : (-1000000000000000000 ≤ i ∧ i ≤ 1000000000000000000) ∧ -1000000000000000000 ≤ j ∧ j ≤ 1000000000000000000) (q : QI (f i (j - i).toNat, yes) h) : Sat (dR2 f (.int i) (.int j) h) QI E := by
  unfold dR2; simp only [lim_in l.1.1 l.1.2, lim_in l.2.1 l.2.2, true_and, if_true]; exact w_ok q
def zipK (x y : D) (h2 : MH) : R (List D × (MH → Bool)) := match x, y with
  | .ref i, .ref j => match getL h2 i, getL h2 j with
    | some l, some m => .ok (zipD l m, fun h' => decide (getL h' i = some l) && decide (getL h' j = some m)) h2
    | _, _ => .bad
  | _, _ => .bad
theorem w_zip (q : Sat (a ρ h) (fun x h1 => Sat (b ρ h1) (fun y h2 => Sat (zipK x y h2) QI E) E) E) : Sat (mZip a b ρ h) QI E := Sat.bnd (q.monoE (fun _ _ z => Sat.bnd z) fun _ _ _ z => z)
theorem w_lc {it : MI} {tg : MG} {vs : List Nat} (q : Sat (it ρ h) (fun a h1 => Sat (lcGo a.2 tg ta e h1.length (wipeD ρ vs) a.1 (h1 ++ [.lst []])) Q E) E) : Sat (mLc it tg ta e vs ρ h) Q E := Sat.bnd q
theorem w_revL (q : Sat (a ρ h) (fun x h1 => Sat (dRevL x h1) Q E) E) : Sat (mRevL a ρ h) Q E := Sat.bnd q
def lrK (x : D) (h : MH) : R D := match x with
  | .int j => lstRg 0 j h
  | _ => .bad
theorem w_listRg1 (q : Sat (a ρ h) (fun x h1 => Sat (lrK x h1) Q E) E) : Sat (mListRg1 a ρ h) Q E := Sat.bnd q
theorem w_tindex (q : Sat (a ρ h) (fun x h1 => ∃ l, x = .tup l ∧ Sat (b ρ h1) (fun y h2 => Sat (dTIdx x y h2) Q E) E) E) : Sat (mTIndex a b ρ h) Q E := Sat.bnd (q.monoE (fun _ _ z => by
  obtain ⟨l, rfl, z⟩ := z
  exact Sat.bnd z) fun _ _ _ z => z)
theorem w_dict0 (q : Q (.ref h.length) (h ++ [.dK []])) : Sat (mDict0 ρ h) Q E := w_ok q
def chK (f' : D → D → MH → R D) (c : ME) (ρ : Slots) (y z : D) (h3 : MH) : R D := match z with
  | .bl true => (c ρ h3).bind fun w h4 => f' y w h4
  | .bl false => .ok (.bl false) h3
  | _ => .bad
theorem w_chain {f f' : D → D → MH → R D} (q : Sat (a ρ h) (fun x h1 => Sat (b ρ h1) (fun y h2 => Sat (f x y h2) (fun z h3 => Sat (chK f' c ρ y z h3) Q E) E) E) E) : Sat (mChain f f' a b c ρ h) Q E :=
  Sat.bnd (q.monoE (fun _ _ z => Sat.bnd (z.monoE (fun _ _ z => Sat.bnd z) fun _ _ _ z => z)) fun _ _ _ z => z)
theorem w_chK {f' : D → D → MH → R D} {y : D} {k : Bool} (q : Br (k = true) (Sat (c ρ h) (fun w h4 => Sat (f' y w h4) Q E) E) (Q (.bl false) h)) : Sat (chK f' c ρ y (.bl k) h) Q E := by
  cases k
  · exact w_ok (q.2 (by decide))
  · exact Sat.bnd (q.1 rfl)
end
section
variable {N : SP} {T : D → MH → Prop} {B C : SP} {E : SX} {ρ : Slots} {h : MH} {a b c e : ME} {r : MA} {ta tb : MT} {sa sb : MS}
theorem w_seq (q : OS (sa ρ h) (fun ρ' h' => OS (sb ρ' h') N T B C E) T B C E) : OS (mSeq sa sb ρ h) N T B C E := by
  unfold mSeq
  cases e : sa ρ h with
  | nx ρ' h' => rw [e, OS_nx] at q; exact q
  | rt d h' => rw [e, OS_rt] at q; exact w_rt q
  | bk ρ' h' => rw [e, OS_bk] at q; exact w_bk q
  | ct ρ' h' => rw [e, OS_ct] at q; exact w_ct q
  | exc x fs ρ' h' => rw [e, OS_exc] at q; simp only [OS_exc]; exact q
  | bad => rw [e, OS_bad] at q; exact q.elim
theorem w_skip (q : N ρ h) : OS (mSkip ρ h) N T B C E := w_nx q
theorem w_brk (q : B ρ h) : OS (mBreak ρ h) N T B C E := w_bk q
theorem w_cont (q : C ρ h) : OS (mCont ρ h) N T B C E := w_ct q
theorem w_retN (q : T .non h) : OS (mRetN ρ h) N T B C E := w_rt q
theorem w_drop (q : Sat (e ρ h) (fun _ h' => N ρ h') fun x fs h => E x fs ρ h) : OS (mDrop e ρ h) N T B C E := Sat.ot (q.monoE (fun _ _ z => w_nx z) fun _ _ _ z => z)
theorem w_ret (q : Sat (e ρ h) T fun x fs h => E x fs ρ h) : OS (mRet e ρ h) N T B C E := Sat.ot (q.monoE (fun _ _ z => w_rt z) fun _ _ _ z => z)
theorem w_if (q : Sat (ta ρ h) (fun x h1 => Br (x = true) (OS (sa ρ h1) N T B C E) (OS (sb ρ h1) N T B C E)) fun x fs h => E x fs ρ h) : OS (mIf ta sa sb ρ h) N T B C E := Sat.ot (q.monoE (fun _ _ z => by
  split
  · rename_i hp; exact z.1 hp
  · rename_i hp; exact z.2 hp) fun _ _ _ z => z)
theorem w_asg {i : Nat} (q : Sat (e ρ h) (fun d h' => N (ρ.set i (some d)) h') fun x fs h => E x fs ρ h) : OS (mAsg i e ρ h) N T B C E := Sat.ot (q.monoE (fun _ _ z => w_nx z) fun _ _ _ z => z)
theorem w_asgT {m : MG} (q : Sat (e ρ h) (fun d h' => ∃ ρ', m d ρ = some ρ' ∧ N ρ' h') fun x fs h => E x fs ρ h) : OS (mAsgT m e ρ h) N T B C E := Sat.ot (q.monoE (fun _ _ z => by
  obtain ⟨ρ', e1, z⟩ := z
  rw [e1]
  exact w_nx z) fun _ _ _ z => z)
theorem w_setIx (q : Sat (e ρ h) (fun d h1 => Sat (a ρ h1) (fun x h2 => Sat (b ρ h2) (fun y h3 => Sat (dSet x y d h3) (fun _ h4 => N ρ h4) fun x fs h => E x fs ρ h) fun x fs h => E x fs ρ h) fun x fs h => E x fs ρ h) fun x fs h => E x fs ρ h) : OS (mSetIx a b e ρ h) N T B C E :=
  Sat.ot (q.monoE (fun _ _ z => Sat.ot (z.monoE (fun _ _ z => Sat.ot (z.monoE (fun _ _ z => Sat.ot (z.monoE (fun _ _ z => w_nx z) fun _ _ _ z => z)) fun _ _ _ z => z)) fun _ _ _ z => z)) fun _ _ _ z => z)
theorem w_for {it : MI} {tg : MG} (q : Sat (it ρ h) (fun x h1 => OS (forGo x.2 tg sa x.1 ρ h1) N T B C E) fun x fs h => E x fs ρ h) : OS (mFor it tg sa ρ h) N T B C E := Sat.ot q
theorem w_fun {n M : Nat} {ds : List D} {Q : D → MH → Prop} {E : XE} (q : OS (sa (startD n M ds) h) (fun _ h' => Q .non h') Q noS noS fun x fs _ h => E x fs h) (hl : ds.length = n := by rfl) : Sat (mFun n M sa ds h) Q E := by
  unfold mFun
  rw [if_pos hl]
  cases e : sa (startD n M ds) h with
  | nx ρ' h' => rw [e, OS_nx] at q; exact w_ok q
  | rt d h' => rw [e, OS_rt] at q; exact w_ok q
  | bk ρ' h' => rw [e, OS_bk] at q; exact q.elim
  | ct ρ' h' => rw [e, OS_ct] at q; exact q.elim
  | exc x fs ρ' h' => rw [e, OS_exc] at q; simp only [Sat_exc]; exact q
  | bad => rw [e, OS_bad] at q; exact q.elim
/-- a loop: what holds between two turns -/
theorem w_loop {gd : MH → Bool} {tg : MG} {body : MS} (I : Nat → SP) : ∀ {items : List D} {k : Nat} {ρ : Slots} {h : MH}, I k ρ h →
    (∀ i ρ h, I i ρ h → gd h = true) →
    (∀ i d ρ h, items[i]? = some d → I (k + i) ρ h → ∃ ρ1, tg d ρ = some ρ1 ∧ OS (body ρ1 h) (I (k + i + 1)) T N (I (k + i + 1)) E) →
    (∀ ρ h, I (k + items.length) ρ h → N ρ h) → OS (forGo gd tg body items ρ h) N T B C E
  | [], k, ρ, h, h0, hg, hs, hn => by
    rw [forGo, if_pos (hg k ρ h h0)]
    exact w_nx (hn _ _ h0)
  | d :: ds, k, ρ, h, h0, hg, hs, hn => by
    obtain ⟨ρ1, e1, q⟩ := hs 0 d ρ h rfl h0
    have go : ∀ ρ' h', I (k + 0 + 1) ρ' h' → OS (forGo gd tg body ds ρ' h') N T B C E := fun ρ' h' i => w_loop I (k := k + 1) (ρ := ρ') (h := h') i hg (fun i d' ρ h hd hi => by
      have e3 : k + (i + 1) = k + 1 + i := by omega
      have := hs (i + 1) d' ρ h (by simpa using hd) (by rw [e3]; exact hi)
      rw [e3] at this
      exact this) (fun ρ h hi => hn ρ h (by rw [List.length_cons]; have e3 : k + (ds.length + 1) = k + 1 + ds.length := by omega
                                            rw [e3]; exact hi))
    rw [forGo, if_pos (hg k ρ h h0), e1]
    cases e2 : body ρ1 h with
    | nx ρ' h' => rw [e2, OS_nx] at q; simp only [e2]; exact go ρ' h' q
    | ct ρ' h' => rw [e2, OS_ct] at q; simp only [e2]; exact go ρ' h' q
    | bk ρ' h' => rw [e2, OS_bk] at q; simp only [e2]; exact w_nx q
    | rt d h' => rw [e2, OS_rt] at q; simp only [e2]; exact w_rt q
    | exc x fs ρ' h' => rw [e2, OS_exc] at q; simp only [e2, OS_exc]; exact q
    | bad => rw [e2, OS_bad] at q; exact q.elim
theorem w_loop0 {gd : MH → Bool} {tg : MG} {body : MS} (I : Nat → SP) {items : List D} {ρ : Slots} {h : MH} (h0 : I 0 ρ h)
    (hg : ∀ i ρ h, I i ρ h → gd h = true)
    (hs : ∀ i d ρ h, items[i]? = some d → I i ρ h → ∃ ρ1, tg d ρ = some ρ1 ∧ OS (body ρ1 h) (I (i + 1)) T N (I (i + 1)) E)
    (hn : ∀ ρ h, I items.length ρ h → N ρ h) : OS (forGo gd tg body items ρ h) N T B C E :=
  w_loop I (k := 0) h0 hg (fun i d ρ h hd hi => by rw [Nat.zero_add] at hi ⊢; exact hs i d ρ h hd hi) (fun ρ h hi => hn ρ h (by rw [Nat.zero_add] at hi; exact hi))
/-- a comprehension: what holds between two turns, of the list so far -/
theorem w_comp {gd : MH → Bool} {tg : MG} {tt : MT} {te : ME} {c : Nat} {ρ : Slots} {Q : D → MH → Prop} {E : XE} (I : Nat → List D → MH → Prop) : ∀ {items : List D} {k : Nat} {acc : List D} {h : MH}, I k acc h → h[c]? = some (.lst acc) → acc.length + items.length ≤ 1000000 →
    (∀ i acc h, I i acc h → gd h = true) →
    (∀ i d acc h, items[i]? = some d → I (k + i) acc h → h[c]? = some (.lst acc) → ∃ ρ1, tg d ρ = some ρ1 ∧ ∃ b h1, tt ρ1 h = .ok b h1 ∧ (b = false → h1[c]? = some (.lst acc) ∧ I (k + i + 1) acc h1) ∧ (b = true → Sat (te ρ1 h1) (fun y h2 => h2[c]? = some (.lst acc) ∧ I (k + i + 1) (acc ++ [y]) (h2.set c (.lst (acc ++ [y])))) noX)) →
    (∀ acc h, I (k + items.length) acc h → h[c]? = some (.lst acc) → Q (.ref c) h) → Sat (lcGo gd tg tt te c ρ items h) Q E
  | [], k, acc, h, h0, hc, hl, hg, hs, hn => by
    rw [lcGo, if_pos (hg k acc h h0)]
    exact w_ok (hn _ _ h0 hc)
  | d :: ds, k, acc, h, h0, hc, hl, hg, hs, hn => by
    obtain ⟨ρ1, e1, b, h1, e2, q1, q2⟩ := hs 0 d acc h rfl h0 hc
    rw [List.length_cons] at hl
    have go : ∀ acc' h', acc'.length ≤ acc.length + 1 → I (k + 0 + 1) acc' h' → h'[c]? = some (.lst acc') → Sat (lcGo gd tg tt te c ρ ds h') Q E := fun acc' h' l i hc' => w_comp I (k := k + 1) (acc := acc') (h := h') i hc' (by omega) hg (fun i d' acc h hd hi hc => by
      have e3 : k + (i + 1) = k + 1 + i := by omega
      have := hs (i + 1) d' acc h (by simpa using hd) (by rw [e3]; exact hi) hc
      rw [e3] at this
      exact this) (fun acc h hi => hn acc h (by rw [List.length_cons]; have e3 : k + (ds.length + 1) = k + 1 + ds.length := by omega
                                                rw [e3]; exact hi))
    rw [lcGo, if_pos (hg k acc h h0), e1]
    cases b with
    | false =>
      simp only [e2]
      obtain ⟨q3, q4⟩ := q1 rfl
      exact go _ _ (by omega) q4 q3
    | true =>
      simp only [e2]
      obtain ⟨y, h2, e3, q3, q4⟩ := (q2 rfl).get
      simp only [e3, q3]
      rw [if_pos (by omega)]
      refine go _ _ (by simp) q4 ?_
      have : c < h2.length := (List.getElem?_eq_some_iff.mp q3).1
      simp [this]
/-- a comprehension whose parts change nothing -/
theorem w_compP {gd : MH → Bool} {tg : MG} {te : ME} {ρ : Slots} {Q : D → MH → Prop} {E : XE} {h0 : MH} (P : Nat → D → Prop) {items : List D} (hl : items.length ≤ 1000000)
    (hg : ∀ t, gd (h0 ++ t) = true)
    (hs : ∀ i d t, items[i]? = some d → ∃ ρ1, tg d ρ = some ρ1 ∧ Sat (te ρ1 (h0 ++ t)) (fun y h2 => h2 = h0 ++ t ∧ P i y) noX)
    (hn : ∀ ys : List D, ys.length = items.length → (∀ i y, ys[i]? = some y → P i y) → Q (.ref h0.length) (h0 ++ [.lst ys])) : Sat (lcGo gd tg mYes te h0.length ρ items (h0 ++ [.lst []])) Q E := by
  refine w_comp (fun k acc h => acc.length = k ∧ h = h0 ++ [.lst acc] ∧ ∀ i y, acc[i]? = some y → P i y) ⟨rfl, rfl, fun i y e => by simp at e⟩ (by simp) (by simpa using hl) (fun i acc h hi => by rw [hi.2.1]; exact hg _) ?_ ?_
  · rintro i d acc h hd ⟨ha, rfl, hp⟩ hc
    obtain ⟨ρ1, e1, s⟩ := hs i d [.lst acc] hd
    refine ⟨ρ1, e1, true, _, rfl, (fun z => Bool.noConfusion z), fun _ => s.mono ?_⟩
    rintro y h2 ⟨rfl, hy⟩
    refine ⟨hc, by simp [ha], by simp, fun j z hz => ?_⟩
    rcases Nat.lt_or_ge j acc.length with q | q
    · rw [List.getElem?_append_left q] at hz
      exact hp j z hz
    · rw [List.getElem?_append_right q] at hz
      have : j - acc.length = 0 := by
        have := (List.getElem?_eq_some_iff.mp hz).1
        simp at this; omega
      rw [this] at hz
      simp at hz
      subst hz
      have : j = i := by simp at ha; omega
      subst this
      exact hy
  · rintro acc h ⟨ha, rfl, hp⟩ hc
    exact hn acc (by simpa using ha) hp
end
/-! leaves -/
section
variable {Q : D → MH → Prop} {E : XE} {h : MH} {i j : Int} {x y : Str} {l m : List D}
theorem w_mod (c : 0 < j) (q : Q (.int (i % j)) h) : Sat (dMod (.int i) (.int j) h) Q E := w_eq (by rw [dMod_int, if_pos c]) q
theorem w_fdiv (c : 0 < j ∧ j < 18446744073709551616) (q : Q (.int (i / j)) h) : Sat (dFdiv (.int i) (.int j) h) Q E := w_eq (dFdiv_small i j h c.1 c.2) q
theorem w_mulS (c : (-18446744073709551616 < i ∧ i < 18446744073709551616) ∧ -18446744073709551616 < j ∧ j < 18446744073709551616) (q : Q (.int (i * j)) h) : Sat (dMul (.int i) (.int j) h) Q E := w_eq (dMul_s i j h c.1.1 c.1.2 c.2.1 c.2.2) q
theorem w_addS (c : x.length + y.length ≤ 1000000) (q : Q (.str (x ++ y)) h) : Sat (dAdd (.str x) (.str y) h) Q E := w_eq (by rw [dAdd_str, if_pos c]) q
theorem w_addT (c : l.length + m.length ≤ 1000000) (q : Q (.tup (l ++ m)) h) : Sat (dAdd (.tup l) (.tup m) h) Q E := w_eq (by rw [dAdd_tup, if_pos c]) q
theorem w_addL {i j : Nat} (hi : h[i]? = some (.lst l)) (hj : h[j]? = some (.lst m)) (c : l.length + m.length ≤ 1000000) (q : Q (.ref h.length) (h ++ [.lst (l ++ m)])) : Sat (dAdd (.ref i) (.ref j) h) Q E := w_eq (by simp only [dAdd, hi, hj, if_pos c]) q
theorem w_pow {n : Nat} (c : n ≤ 1000000 ∧ i.natAbs < 2 ^ 64) (q : Q (.int (i ^ n)) h) : Sat (dPow (.int i) (.int (n : Int)) h) Q E := w_eq (by rw [dPow_int, if_pos (by omega), Int.toNat_natCast]) q
theorem w_shl {n : Nat} (c : n ≤ 1000000 ∧ i.natAbs < 2 ^ 64) (q : Q (.int (i * 2 ^ n)) h) : Sat (dShl (.int i) (.int (n : Int)) h) Q E := w_eq (by rw [dShl_int, if_pos (by omega), Int.toNat_natCast]) q
theorem w_lenS (c : x.length ≤ 1000000) (q : Q (.int x.length) h) : Sat (dLen [.str x] h) Q E := w_eq (by rw [dLen_str, if_pos c]) q
theorem w_lenL {i : Nat} (c : getL h i = some l) (q : Q (.int l.length) h) : Sat (dLen [.ref i] h) Q E := w_eq (dLen_ref c) q
theorem w_slS {lo hi : Option Int} (c : x.length ≤ 1000000) (q : Q (.str (cutS x lo hi)) h) : Sat (dSl (.str x) lo hi h) Q E := w_eq (by rw [dSl_str, if_pos c]) q
theorem w_ixL {k : Nat} {d : D} (c : getL h k = some l) (e : atI l i = some d) (q : Q d h) : Sat (dIx (.ref k) (.int i) h) Q E := w_eq (dIx_ref c e) q
theorem w_ixT {d : D} (e : atI l i = some d) (q : Q d h) : Sat (dIx (.tup l) (.int i) h) Q E := w_eq (dIx_tup h e) q
theorem w_ixS {c : Nat} (hz : x.length ≤ 1000000) (e : atI x.cps.toList i = some c) (q : Q (.str ⟨#[c]⟩) h) : Sat (dIx (.str x) (.int i) h) Q E := w_eq (dIx_str h hz e) q
theorem getL_of {i : Nat} (e : h[i]? = some (.lst l)) : getL h i = some l := by unfold getL; rw [e]
theorem w_app {i : Nat} {d : D} (e : h[i]? = some (.lst l)) (c : l.length < 1000000) (q : Q .non (h.set i (.lst (l ++ [d])))) : Sat (dAppend (.ref i) [d] h) Q E := w_eq (by simp only [dAppend, e, if_pos c]) q
theorem w_pop {i : Nat} {d : D} (e : h[i]? = some (.lst (l ++ [d]))) (q : Q d (h.set i (.lst l))) : Sat (dPop (.ref i) [] h) Q E := w_eq (by simp [dPop, e]) q
theorem w_tupL {i : Nat} (c : getL h i = some l) (q : Q (.tup l) h) : Sat (dTuple [.ref i] h) Q E := w_eq (by simp [dTuple, seqOf, c]) q
theorem w_eqK {a b : D} {k : Bool} (e : eqD a b h = some k) (q : Q (.bl k) h) : Sat (dEq a b h) Q E := w_eq (dEq_of e) q
theorem w_neK {a b : D} {k : Bool} (e : eqD a b h = some k) (q : Q (.bl (!k)) h) : Sat (dNe a b h) Q E := w_eq (dNe_of e) q
theorem w_set {QU : Unit → MH → Prop} {i : Nat} {k : Int} {n : Nat} {d : D} (e : h[i]? = some (.lst l)) (c : ixN l.length k = some n) (q : QU () (h.set i (.lst (l.set n d)))) : Sat (dSet (.ref i) (.int k) d h) QU E := w_eq (by simp only [dSet, e, c]) q
theorem allStr_map (bs : List Str) : allStr (bs.map D.str) = some bs := by
  induction bs with
  | nil => rfl
  | cons b bs ih => simp [allStr, ih]
theorem w_join {i : Nat} {ys : List Str} (e : getL h i = some (ys.map .str)) (c : (ys.map (·.length)).sum + ys.length * x.length ≤ 1000000) (q : Q (.str (Txt.join x ys)) h) : Sat (dJoin (.str x) [.ref i] h) Q E := w_eq (by simp only [dJoin, seqOf, e, Option.bind_some, allStr_map, if_pos c]) q
end
end Mi

/-! Lists of one's own: h goes on from h0, and the listed cells behind it are known. -/
namespace Mi
open PySem L2
abbrev LL := List (Nat × List D)
structure Own (h0 h : MH) (L : LL) : Prop where
  pre : h0 <+: h
  cell : ∀ p ∈ L, h0.length ≤ p.1 ∧ h[p.1]? = some (.lst p.2)
  nd : (L.map (·.1)).Nodup
section
variable {h0 h h' h1 : MH} {L M : LL} {i : Nat} {l l' : List D}
theorem Own.nil (h : MH) : Own h h [] := ⟨List.prefix_rfl, fun p hp => by simp at hp, List.nodup_nil⟩
theorem pre_get (p : h <+: h') {o : MO} (e : h[i]? = some o) : h'[i]? = some o := by
  obtain ⟨t, rfl⟩ := p
  rw [List.getElem?_append_left (List.getElem?_eq_some_iff.mp e).1]
  exact e
theorem pre_getL (p : h <+: h') (e : getL h i = some l) : getL h' i = some l := by
  obtain ⟨t, rfl⟩ := p
  have hi : i < h.length := by
    cases q : h[i]? with
    | none => simp [getL, q] at e
    | some o => exact (List.getElem?_eq_some_iff.mp q).1
  unfold getL
  rw [List.getElem?_append_left hi]
  exact e
theorem Own.getL (o : Own h0 h L) (e : getL h0 i = some l) : getL h i = some l := pre_getL o.pre e
theorem Own.ext (o : Own h0 h L) (p : h <+: h') : Own h0 h' L := ⟨o.pre.trans p, fun q hq => ⟨(o.cell q hq).1, pre_get p (o.cell q hq).2⟩, o.nd⟩
theorem Own.lt (o : Own h0 h L) {p : Nat × List D} (hp : p ∈ L) : p.1 < h.length := (List.getElem?_eq_some_iff.mp (o.cell p hp).2).1
theorem Own.add (o : Own h0 h L) (hi : h0.length ≤ i) (e : h[i]? = some (.lst l)) (n : ∀ p ∈ L, p.1 ≠ i) : Own h0 h ((i, l) :: L) :=
  ⟨o.pre, fun q hq => by
    rcases List.mem_cons.mp hq with rfl | hq
    · exact ⟨hi, e⟩
    · exact o.cell q hq, List.nodup_cons.mpr ⟨fun hm => by
      obtain ⟨p, hp, rfl⟩ := List.mem_map.mp hm
      exact n p hp rfl, o.nd⟩⟩
theorem Own.alloc (o : Own h0 h L) (xs : List D) : Own h0 (h ++ [.lst xs]) ((h.length, xs) :: L) :=
  (o.ext (List.prefix_append _ _)).add (o.pre.length_le) (by simp) fun p hp => Nat.ne_of_lt (o.lt hp)
theorem Own.at (o : Own h0 h L) (n : Nat) (e : L[n]? = some (i, l)) : h[i]? = some (.lst l) := (o.cell _ (List.mem_of_getElem? e)).2
theorem Own.atL (o : Own h0 h L) (n : Nat) (e : L[n]? = some (i, l)) : Mi.getL h i = some l := getL_of (o.at n e)
theorem Own.isL (o : Own h0 h L) (n : Nat) (e : L[n]? = some (i, l)) : isListD (.ref i) h = true := by rw [isListD_ref, o.atL n e]; rfl
theorem Own.setAt (o : Own h0 h L) (n : Nat) (e : L[n]? = some (i, l)) (l' : List D) : Own h0 (h.set i (.lst l')) (L.set n (i, l')) := by
  have hn : n < L.length := (List.getElem?_eq_some_iff.mp e).1
  have en : L[n] = (i, l) := (List.getElem?_eq_some_iff.mp e).2
  have hi : i < h.length := o.lt (List.mem_of_getElem? e)
  have h0i : h0.length ≤ i := (o.cell _ (List.mem_of_getElem? e)).1
  have em : (L.set n (i, l')).map (·.1) = L.map (·.1) := by
    rw [List.map_set]
    refine List.ext_getElem (by simp) fun k h1 h2 => ?_
    rw [List.getElem_set]
    split
    · rename_i q
      subst q
      rw [List.getElem_map, en]
    · rfl
  refine ⟨?_, fun q hq => ?_, by rw [em]; exact o.nd⟩
  · obtain ⟨t, rfl⟩ := o.pre
    rw [List.set_append_right _ _ h0i]
    exact List.prefix_append _ _
  · obtain ⟨k, hk, e2⟩ := List.mem_iff_getElem.mp hq
    rw [List.getElem_set] at e2
    split at e2
    · subst e2
      exact ⟨h0i, by simp [hi]⟩
    · rename_i hne
      have hk' : k < L.length := by simpa using hk
      have hm : q ∈ L := e2 ▸ List.getElem_mem hk'
      refine ⟨(o.cell q hm).1, ?_⟩
      rw [List.getElem?_set_ne]
      · exact (o.cell q hm).2
      · intro z
        have h1 : (L.map (·.1))[n]'(by simpa using hn) = (L.map (·.1))[k]'(by simpa using hk') := by
          rw [List.getElem_map, List.getElem_map, en, e2]
          exact z
        exact hne ((List.getElem_inj o.nd).mp h1)
theorem Own.trans (o : Own h0 h L) (o' : Own h h' M) : Own h0 h' (M ++ L) := by
  have o2 := o.ext o'.pre
  refine ⟨o2.pre, fun q hq => ?_, ?_⟩
  · rcases List.mem_append.mp hq with hq | hq
    · exact ⟨Nat.le_trans o.pre.length_le (o'.cell q hq).1, (o'.cell q hq).2⟩
    · exact o2.cell q hq
  · rw [List.map_append, List.nodup_append]
    refine ⟨o'.nd, o.nd, fun a ha b hb => ?_⟩
    obtain ⟨p, hp, rfl⟩ := List.mem_map.mp ha
    obtain ⟨q, hq, rfl⟩ := List.mem_map.mp hb
    have h1 := (o'.cell p hp).1
    have h2 := o.lt hq
    omega
theorem Own.sub (o : Own h0 h L) (s : M.Sublist L) : Own h0 h M := ⟨o.pre, fun p hp => o.cell p (s.subset hp), (s.map _).nodup o.nd⟩
theorem Own.tail {p : Nat × List D} (o : Own h0 h (p :: L)) : Own h0 h L := o.sub (List.sublist_cons_self _ _)
theorem Own.none (o : Own h0 h L) : Own h0 h [] := o.sub (List.nil_sublist _)
theorem Own.head {p : Nat × List D} (o : Own h0 h (p :: L)) : Own h0 h [p] := o.sub (List.Sublist.cons_cons _ (List.nil_sublist _))
theorem Own.ne (o : Own h0 h L) {a b : Nat} {p q : Nat × List D} (ha : L[a]? = some p) (hb : L[b]? = some q) (n : a ≠ b) : p.1 ≠ q.1 := by
  intro z
  have h1 := (List.getElem?_eq_some_iff.mp ha)
  have h2 := (List.getElem?_eq_some_iff.mp hb)
  refine n ((List.getElem_inj o.nd (i := a) (j := b) (h₀ := by simpa using h1.1) (h₁ := by simpa using h2.1)).mp ?_)
  rw [List.getElem_map, List.getElem_map, h1.2, h2.2]
  exact z
/-! rules -/
variable {Q : D → MH → Prop} {E : XE}
theorem o_new {xs : List D} (o : Own h0 h L) (l : xs.length ≤ 1000000) (q : ∀ i h', Own h0 h' ((i, xs) :: L) → Q (.ref i) h') : Sat (toLst xs h) Q E := w_toLst l (q _ _ (o.alloc xs))
theorem o_app {d : D} (o : Own h0 h L) (n : Nat) (e : L[n]? = some (i, l)) (c : l.length < 1000000) (q : ∀ h', Own h0 h' (L.set n (i, l ++ [d])) → Q .non h') : Sat (dAppend (.ref i) [d] h) Q E := w_app (o.at n e) c (q _ (o.setAt n e _))
theorem o_add {j : Nat} {m : List D} (o : Own h0 h L) (hi : h[i]? = some (.lst l)) (hj : h[j]? = some (.lst m)) (c : l.length + m.length ≤ 1000000) (q : ∀ i h', Own h0 h' ((i, l ++ m) :: L) → Q (.ref i) h') : Sat (dAdd (.ref i) (.ref j) h) Q E := w_addL hi hj c (q _ _ (o.alloc _))
theorem o_set {QU : Unit → MH → Prop} {k : Int} {m : Nat} {d : D} (o : Own h0 h L) (n : Nat) (e : L[n]? = some (i, l)) (c : ixN l.length k = some m) (q : ∀ h', Own h0 h' (L.set n (i, l.set m d)) → QU () h') : Sat (dSet (.ref i) (.int k) d h) QU E := w_set (o.at n e) c (q _ (o.setAt n e _))
/-- a comprehension whose parts change nothing -/
theorem o_comp {gd : MH → Bool} {tg : MG} {te : ME} {ρ : Slots} (P : Nat → D → Prop) {items : List D} (o : Own h0 h L) (hl : items.length ≤ 1000000)
    (hg : ∀ h', h <+: h' → gd h' = true)
    (hs : ∀ i d h', items[i]? = some d → h <+: h' → ∃ ρ1, tg d ρ = some ρ1 ∧ Sat (te ρ1 h') (fun y h2 => h2 = h' ∧ P i y) noX)
    (hn : ∀ ys : List D, ys.length = items.length → (∀ i y, ys[i]? = some y → P i y) → ∀ i h', Own h0 h' ((i, ys) :: L) → Q (.ref i) h') : Sat (lcGo gd tg mYes te h.length ρ items (h ++ [.lst []])) Q E :=
  w_compP P hl (fun t => hg _ (List.prefix_append _ _)) (fun i d t hd => hs i d _ hd (List.prefix_append _ _)) fun ys hy hp => hn ys hy hp _ _ (o.alloc ys)
end
end Mi

/-! Exceptions: raised with a field or none, caught, kept in a name, asked for their class and field. -/
namespace Mi
open PySem L2 PySem.Spec PyProof.Rows
section
variable {X : Cx} {pins : List (Addr × Obj)} {σ : L2.St} {H : Hp} {s : Shared}
/-- the object of an exception gets tracked -/
theorem inv_track {p C : Addr} {d : Option Addr} {ob : Obj} {vs : Array Value} (I : Inv X pins σ H s) (hp : s.heap.get? p = some ob) (hz : Zc (.ref C) d ob) (hd : ob.data = .fields vs) (np : H p = none)
    (n0 : X.s_0.heap.get? p = none) (nL : p ≠ X.env.locals) (nC : ∀ x c, X.env.cells.lookup x = some c → c ≠ p) (nP : ∀ q ∈ X.pn ++ pins, q.1 ≠ p) : Inv X pins σ (upd H p (XOk C d p)) s := by
  have ne0 : ∀ b o, X.s_0.heap.get? b = some o → b ≠ p := fun b o e z => by rw [z, n0] at e; cases e
  refine ⟨I.ok, I.os, I.bare, ⟨I.base.keep, I.base.slot, ?_, I.base.there, ?_, ?_, ?_⟩, I.loc, I.cell, ?_, ?_, ?_, ?_, I.len⟩
  · intro b o e n x
    rw [upd_ne (ne0 b o e)]
    exact I.base.free b o e n x
  · intro b xs e
    have q := I.base.tups b xs e
    rw [upd_ne (ne_of_none q np)]
    exact q
  · intro b o u e
    have q := I.base.frzs b o u e
    rw [upd_ne (ne_of_none q np)]
    exact q
  · intro b ps e
    obtain ⟨m, q⟩ := I.base.tbls b ps e
    exact ⟨m, by rw [upd_ne (ne_of_none q np)]; exact q⟩
  · rw [upd_ne (Ne.symm nL)]
    exact I.free
  · intro x c e
    rw [upd_ne (nC x c e)]
    exact I.freeC x c e
  · intro q hq
    obtain ⟨h1, h2, h3⟩ := I.pin q hq
    exact ⟨h1, by rw [upd_ne (nP q hq)]; exact h2, h3⟩
  · intro b u e
    by_cases hb : b = p
    · subst hb
      rw [upd_same] at e
      cases e
      exact ⟨⟨ob, vs, hp, hz, hd⟩, ⟨ob, hp⟩, fun h1 h2 ⟨o, v, e1, e2⟩ k => ⟨o, v, k o e1, e2⟩⟩
    · rw [upd_ne hb] at e
      refine (I.hok b u e).stay (fun _ _ _ q => q) ?_ ?_
      · intro c q
        rw [upd_ne (ne_of_none q np)]
        exact q
      · intro c xs q
        rw [upd_ne (ne_of_none q np)]
        exact q
end
/-- what a clause wishes that keeps the exception: slot i is the clause's name, slot j the one that keeps it -/
def wKeep (K : PySem.W.Frag) (c : Value) (i j : Nat) (Wo : WX) (D : Ends) : WX := fun cls d σ H =>
  ∃ b C, cls = .ref C ∧ PySem.W.exmOne K cls c = some b ∧ (b = true → ∀ p, H p = none → D.nx (((σ.set i (some (.ref p))).set j (some (.ref p))).set i none) (upd H p (XOk C d p))) ∧ (b = false → Wo cls d σ H)
section
variable {X : Cx} {x n r : Str} {c : Value} {i j : Nat} {body : List Stmt} {qn q0 q1 q2 q3 q4 : Pos} {tb : WX → TS} {Wo : WX}
theorem ps_try_keep (hst : X.stack = X.env :: X.outer) (hfm : X.env.frame = some X.env.locals) (hND : X.N.Nodup) (hi : X.N[i]? = some n) (hj : X.N[j]? = some r) (hij : i ≠ j) (hln : X.env.kindOf n = some .local) (hlr : X.env.kindOf r = some .local) (hcn : Names X x c) (tk : Takes X Wo) (hex : X.ex = [])
    (hdn : (n == ("__debug__" : Str)) = false) (hcd : (n == ("__classdict__" : Str)) = false)
    (hsw : ∀ (p : Addr) (pn : List (Addr × Obj)), swapsWith (.Name n q2) (some (.Name r q1)) q3.line X.env = pure false)
    (hbd : ∀ (W : WX) (pn : List (Addr × Obj)) (xe : Value → Shared → Prop), Takes (X.tr pn xe) W → PassesOwn (model X.prog X.w) X.A X.env xe → PSs (X.tr pn xe) body (tb W)) :
    PS X (.Try body [.ExceptHandler (some (.Name x qn)) (some n) [.Assign [.Name r q1] (.Name n q2) q3] q0] [] [] q4) (fun D σ H => tb (wKeep X.K c i j Wo D) D σ H) := by
  refine ⟨fun pins s σ H D I q => ?_⟩
  have kk := I.ok
  have hfr : X.A.frames = some (X.env :: X.outer) := by rw [kk.frames, hst]
  refine wpAny_Try_except ?_
  let cl : List ExceptHandler := [.ExceptHandler (some (.Name x qn)) (some n) [.Assign [.Name r q1] (.Name n q2) q3] q0]
  refine wpAny_mono ((hbd (wKeep X.K c i j Wo D) (X.pn ++ pins) (fun ev t1 => wpAny (model X.prog X.w) X.A (noteFrame ev X.env) (fun _ t2 =>
    wpAny (model X.prog X.w) X.A (setFlight ev none) (fun _ t3 => wpAny (model X.prog X.w) X.A (handleBy ev X.env cl) (L2.SP X pins D) X.xe t3) X.xe t2) X.xe t1)
    (fun uu s' xx => ?_) PassesOwn.looking).run [] s σ H D (I.toTry _) q) (fun fl s1 hsp => ?_) (fun _ _ he => he)
  · obtain ⟨p, B, sI, pins', σ', H', cls, d, rfl, J', nb, up, sky, np, os, ag, b, C, rfl, hb1, hyes, hno⟩ := xx
    have J : Inv X pins σ' H' sI := J'.ofTry kk
    have sky2 : Sky B (X.env :: X.outer) p (Zc (.ref C) d) X.env.locals s'.heap := by rw [← hst]; exact sky
    show wpAny (model X.prog X.w) X.A (noteFrame (.ref p) X.env) _ _ _
    refine Sky.land Zc.steady hfr hfm sky2 fun h3 f3 up3 => ?_
    have J3 : Inv X pins σ' H' { s' with heap := h3 } := J.landed nb f3.1 (up.trans up3) os ag
    obtain ⟨o3, v3, ho3, hz3, hd3⟩ := f3.there
    have off : p ∉ frs (X.env :: X.outer) := fun hm => by
      obtain ⟨_, o', e', hnf⟩ := f3.2.2.1.mem hm
      rw [ho3] at e'
      cases e'
      exact hnf _ hd3
    have nL : p ≠ X.env.locals := fun z => off (List.mem_filterMap.mpr ⟨X.env, List.mem_cons_self, by rw [hfm, z]⟩)
    have nF : p ∉ X.fs := fun hm => by
      obtain ⟨e, he, w⟩ := List.mem_filterMap.mp hm
      exact off (List.mem_filterMap.mpr ⟨e, List.mem_cons_of_mem _ he, w⟩)
    have nI : ∀ o, sI.heap.get? p = some o → False := fun o e => by
      have z := nb p o e (by rw [hst]; exact off)
      rw [f3.2.1] at z
      cases z
    have n0 : X.s_0.heap.get? p = none := by
      cases e : X.s_0.heap.get? p with
      | none => rfl
      | some o =>
        obtain ⟨o', z⟩ := J.base.there p o e (by rw [hex]; exact fun z => nomatch z)
        exact (nI o' z).elim
    have S3 := J3.suite ho3 hd3 np nL nF
    refine wpAny_handleBy_cons (codeAny_handlers_test ?_) (by intro q; cases q)
    have ty3 : PySem.W.Looks (model X.prog X.w) h3 (typeOf (.ref p)) (.ref C) := fun _ _ _ _ k q => wpAny_typeOf_ref (k _ _ ho3) (by rw [hz3.1]; exact q)
    have mt3 := PySem.W.exm_one (M := model X.prog X.w) (J3.kIn) ty3 hb1
    have named : ∀ {Q : Value → Shared → Prop} {E : Value → Shared → Prop}, Q c { s' with heap := h3 } →
        wpAny (model X.prog X.w) (X.A.mark (some (.ref p))) (eval (.Name x qn) X.env) Q E { s' with heap := h3 } := by
      intro Q E w
      obtain ⟨g1, g2, g3⟩ := hcn
      rcases g3 with g3 | ⟨g3, g4, g5⟩
      · exact ld_glob (X := X.suite p ((p, o3) :: (X.pn ++ pins))) S3 g1 g3 w g2
      · exact ld_blt (X := X.suite p ((p, o3) :: (X.pn ++ pins))) S3 g1 g3 g4 w g5 g2
    refine named (mt3.here ?_)
    cases b with
    | true =>
      refine codeAny_handlers_suite_as (HandSPX.lands_againZ f3 fun h4 f4 up4 => ?_)
      have J4 : Inv X pins σ' H' { s' with heap := h4 } := J.landed nb f4.1 ((up.trans up3).trans up4) os ag
      obtain ⟨o4, v4, ho4, hz4, hd4⟩ := f4.there
      have S4 := J4.suite ho4 hd4 np nL nF
      refine store_ok (X := X.suite p ((p, o4) :: (X.pn ++ pins))) (v := .ref p) S4 hND hi (.inl hln) rfl (fun s5 S5 => ?_) (.inr hln)
      have su : PSs (X.suite p ((p, o4) :: (X.pn ++ pins))) [.Assign [.Name r q1] (.Name n q2) q3] (tAsg (tVar i) (gName j)) :=
        pss_one (ps_set hND hj (.inl hlr) (pe_var hi (.inl hln) hdn hcd) (hsw p (X.pn ++ pins)) (.inr hlr))
      have lt : i < σ'.length := by rw [J.len]; exact (List.getElem?_eq_some_iff.mp hi).1
      refine wpAny_mono (su.run [] s5 _ H' { nx := fun σ6 H6 => σ6 = (σ'.set i (some (.ref p))).set j (some (.ref p)) ∧ H6 = H', rt := fun _ _ => False, bk := fun _ _ => False, ct := fun _ _ => False } S5 ?_) (fun fl s6 hs6 => ?_) (fun _ _ z => False.elim z)
      · exact ⟨.ref p, by rw [List.getElem?_set_self lt], rfl, rfl⟩
      · cases fl with
        | next =>
          obtain ⟨σ6, H6, S6, rfl, rfl⟩ := hs6
          obtain ⟨hg6, _⟩ := S6.pin (p, o4) (List.mem_append_left _ List.mem_cons_self)
          have K6 := inv_track (S6.unsuite kk) hg6 hz4 hd4 np n0 nL
            (fun y c' e z => by
              obtain ⟨v, o, e1, _⟩ := J.cell y c' e
              rw [z] at e1
              exact nI o e1)
            (fun q' hq z => by
              have e1 := (J.pin q' hq).1
              rw [z] at e1
              exact nI _ e1)
          exact gone_ok K6 hND hi hln fun s7 J7 => ⟨_, _, J7, hyes rfl p np⟩
        | brk => obtain ⟨_, _, _, z⟩ := hs6; exact z.elim
        | cont => obtain ⟨_, _, _, z⟩ := hs6; exact z.elim
        | ret u => obtain ⟨_, _, _, _, _, z⟩ := hs6; exact z.elim
    | false =>
      show wpAny _ X.A (handleBy (.ref p) X.env []) _ _ _
      refine wpAny_handleBy_nil ?_
      obtain ⟨k1, k2, k3, oe, vs, T, oT, ts', he, hz, hd, h1, hr⟩ := id f3
      unfold PySem.passOn
      refine wpAny_bind (wpAny_field he hd h1 ?_)
      rw [if_neg (show ¬ ((Value.ref T == Value.none) = true) by simp)]
      have last : wpAny (model X.prog X.w) X.A (setFlight (.ref p) X.env.frame) (fun _ t4 => wpAny (model X.prog X.w) X.A (throw (.ref p) : Sem Flow) (L2.SP X pins D) X.xe t4) X.xe { s' with heap := h3 } := by
        rw [hfm]
        refine HandSPX.setFlight_upZ f3 fun h4 g4 up4 => wpAny_throw (tk _ _ ?_)
        exact ⟨p, B, sI, pins, σ', H', .ref C, d, rfl, J, nb, (up.trans up3).trans up4, .inr (.inr (by rw [hst]; exact g4)), np, os, ag, hno rfl⟩
      first
        | exact wpAny_bind (wpAny_pure (wpAny_bind last))
        | exact wpAny_bind last
  · cases fl with
    | next =>
      obtain ⟨σ', H', J', w⟩ := hsp
      exact wpAny_execs_nil ⟨σ', H', J'.ofTry kk, w⟩
    | brk =>
      obtain ⟨σ', H', J', w⟩ := hsp
      exact ⟨σ', H', J'.ofTry kk, w⟩
    | cont =>
      obtain ⟨σ', H', J', w⟩ := hsp
      exact ⟨σ', H', J'.ofTry kk, w⟩
    | ret u =>
      obtain ⟨v, σ', H', J', r', w⟩ := hsp
      exact ⟨v, σ', H', J'.ofTry kk, r', w⟩
end

/-! ### what a class of exceptions must say -/
structure ClsX (K : PySem.W.Frag) (C : Addr) : Prop where
  cl : (PySem.W.clsIn K C).isSome = true
  ga : PySem.W.findIn K (.ref C) "__getattribute__" = some (some (.builtin "BaseException.__getattribute__"))
  gg : PySem.W.findIn K (.ref C) "__getattr__" = some none
  sb : PySem.W.subIn K (.ref C) (.type "BaseException") = some true
  ca : PySem.W.findIn K (.ref C) "__class__" = some (some (.builtin "object.__class__"))
  cg : PySem.W.specialIn K (.builtin "object.__class__") "__get__" = some (some (.builtin "getset_descriptor.__get__"))
  ct : PySem.W.takesIn K (.builtin "object.__class__") = some true
  mo : PySem.W.mroIn K C (.type "object") = some true
  hd : PySem.W.hasDictIn K C = true
  ty : PySem.W.typeIn K (.ref C) = some (.type "type")
  kp : PySem.W.keepIn K (.ref C) = true
def clsXB (K : PySem.W.Frag) (C : Addr) : Bool :=
  (PySem.W.clsIn K C).isSome && (decide (PySem.W.findIn K (.ref C) "__getattribute__" = some (some (.builtin "BaseException.__getattribute__"))) && (decide (PySem.W.findIn K (.ref C) "__getattr__" = some none) &&
  (decide (PySem.W.subIn K (.ref C) (.type "BaseException") = some true) && (decide (PySem.W.findIn K (.ref C) "__class__" = some (some (.builtin "object.__class__"))) &&
  (decide (PySem.W.specialIn K (.builtin "object.__class__") "__get__" = some (some (.builtin "getset_descriptor.__get__"))) && (decide (PySem.W.takesIn K (.builtin "object.__class__") = some true) &&
  (decide (PySem.W.mroIn K C (.type "object") = some true) && (PySem.W.hasDictIn K C && (decide (PySem.W.typeIn K (.ref C) = some (.type "type")) && PySem.W.keepIn K (.ref C))))))))))
theorem clsXB_ok {K : PySem.W.Frag} {C : Addr} (h : clsXB K C = true) : ClsX K C := by
  unfold clsXB at h
  simp only [Bool.and_eq_true, decide_eq_true_eq] at h
  obtain ⟨h1, h2, h3, h4, h5, h6, h7, h8, h9, h10, h11⟩ := h
  exact ⟨h1, h2, h3, h4, h5, h6, h7, h8, h9, h10, h11⟩
/-- the classes in a table, each with a truth -/
def TabX (K : PySem.W.Frag) (l : List (Str × Bool)) (f : Addr → Bool → Prop) : Prop := ∀ c b C, l.lookup c = some b → cmOf K c = some C → ClsX K C ∧ f C b
def tabXB (K : PySem.W.Frag) (l : List (Str × Bool)) (f : Addr → Bool → Bool) : Bool := l.all fun p => match cmOf K p.1 with
  | some C => clsXB K C && f C p.2
  | none => false
theorem lookup_mem {κ α : Type} [BEq κ] [LawfulBEq κ] : ∀ {l : List (κ × α)} {c : κ} {b : α}, l.lookup c = some b → (c, b) ∈ l
  | [], _, _, h => by simp at h
  | (x, y) :: l, c, b, h => by
    rw [List.lookup_cons] at h
    split at h
    · rename_i q
      cases h
      rw [beq_iff_eq.mp q]
      exact List.mem_cons_self
    · exact List.mem_cons_of_mem _ (lookup_mem h)
theorem tabXB_ok {K : PySem.W.Frag} {l : List (Str × Bool)} {f : Addr → Bool → Bool} {g : Addr → Bool → Prop} (hfg : ∀ C b, f C b = true → g C b) (h : tabXB K l f = true) : TabX K l g := fun c b C e1 e2 => by
  have q := List.all_eq_true.mp h _ (lookup_mem e1)
  dsimp only at q
  rw [e2] at q
  obtain ⟨q1, q2⟩ := Bool.and_eq_true_iff.mp q
  exact ⟨clsXB_ok q1, hfg C b q2⟩

/-! ### caught and kept -/
def xoOf (c : Str) : List (Str × D) → Option D
  | [] => some (.xo c (Str.ofString "") .non)
  | [(f, v)] => some (.xo c f v)
  | _ => none
def mTryK (tab : List (Str × Bool)) (i j : Nat) (b : MS) : MS := fun ρ h => match b ρ h with
  | .exc c fs ρ1 h1 => match tab.lookup c with
    | some true => match xoOf c fs with
      | some d => .nx (((ρ1.set i none).set j (some d)).set i none) h1
      | none => .bad
    | some false => .exc c fs ρ1 h1
    | none => .bad
  | o => o
section
variable {K : PySem.W.Frag} {H : Hp} {μ : List Addr} {h : MH}
theorem xr_xo {cls : Value} {d : Option Addr} {c : Str} {fs : List (Str × D)} {C p : Addr} {dv : D} (x : XR (gOf w K) H μ (.ref C) d c fs) (e : xoOf c fs = some dv) (np : H p = none) : VR (gOf w K) (upd H p (XOk C d p)) μ (.ref p) dv := by
  obtain ⟨C', e1, e2, e3⟩ := x
  cases e1
  have m : Mon (gOf w K) H (upd H p (XOk C d p)) μ μ := (Saf.fresh np).mon
  rcases e3 with ⟨rfl, rfl⟩ | ⟨dd, fv, hne, rfl, h1, h2⟩
  · cases e
    exact .xo (v := .non) upd_same e2 (.inl ⟨rfl, rfl⟩) .non
  · cases h2 with
    | nil => exact absurd rfl hne
    | cons a b =>
      cases b with
      | nil =>
        cases e
        refine .xo upd_same e2 (.inr ⟨dd, _, rfl, by rw [upd_ne (ne_of_none h1 np)]; exact h1, ?_⟩) (a.mono m)
        simp [List.lookup]
      | cons _ _ => cases e
end

section
variable {X : Cx} {x n r : Str} {c : Value} {i j : Nat} {body : List Stmt} {qn q0 q1 q2 q3 q4 : Pos} {mb : MS} {W : WX} {tab : List (Str × Bool)}
theorem sx_tryK (tk : Takes X W) (hcn : Names X x c) (ht : TabX X.K tab fun C b => PySem.W.exmOne X.K (.ref C) c = some b)
    (hbd : ∀ (W : WX) (pn : List (Addr × Obj)) (xe : Value → Shared → Prop), Takes (X.tr pn xe) W → PSs (X.tr pn xe) body (tS (gOf X.w X.K) W mb)) (hND : X.N.Nodup)
    (hi : X.N[i]? = some n := by rfl) (hj : X.N[j]? = some r := by rfl) (hij : i ≠ j := by decide) (hln : X.env.kindOf n = some .local := by rfl) (hlr : X.env.kindOf r = some .local := by rfl)
    (hst : X.stack = X.env :: X.outer := by rfl) (hfm : X.env.frame = some X.env.locals := by rfl) (hex : X.ex = [] := by rfl)
    (hdn : (n == ("__debug__" : Str)) = false := by decide) (hcd : (n == ("__classdict__" : Str)) = false := by decide)
    (hsw : swapsWith (.Name n q2) (some (.Name r q1)) q3.line X.env = pure false := by rfl) :
    PS X (.Try body [.ExceptHandler (some (.Name x qn)) (some n) [.Assign [.Name r q1] (.Name n q2) q3] q0] [] [] q4) (tS (gOf X.w X.K) W (mTryK tab i j mb)) :=
  ps_mono (ps_try_keep hst hfm hND hi hj hij hln hlr hcn tk hex hdn hcd (fun _ _ => hsw) (fun W pn xe t _ => hbd W pn xe t)) fun E σ H ⟨ρ, h, μ, sr, hr, bk⟩ => by
    refine ⟨ρ, h, μ, sr, hr, ?_⟩
    simp only [mTryK] at bk
    cases e : mb ρ h with
    | exc cn fs ρ1 h1 =>
      rw [e] at bk
      dsimp only at bk
      intro cls d σ' H' μ' m sr' hr' xr
      obtain ⟨C, rfl, hC, xr'⟩ := id xr
      cases l : tab.lookup cn with
      | none => rw [l] at bk; exact bk.elim
      | some b =>
        rw [l] at bk
        obtain ⟨_, q⟩ := ht cn b C l hC
        refine ⟨b, C, rfl, q, fun hb p np => ?_, fun hb => ?_⟩
        · subst hb
          dsimp only at bk
          cases z : xoOf cn fs with
          | none => rw [z] at bk; exact bk.elim
          | some dv =>
            rw [z] at bk
            have m2 : Mon (gOf X.w X.K) H' (upd H' p (XOk C d p)) μ' μ' := (Saf.fresh np).mon
            refine bk _ _ μ' (m.trans m2) ?_ (hr'.laid np)
            exact (((sr'.mono m2).unset i _).set j (xr_xo (cls := .ref C) xr z np)).unset i _
        · subst hb
          exact bk _ d σ' H' μ' m sr' hr' xr
    | nx _ _ => rw [e] at bk; exact bk
    | rt _ _ => rw [e] at bk; exact bk
    | bk _ _ => rw [e] at bk; exact bk
    | ct _ _ => rw [e] at bk; exact bk
    | bad => rw [e] at bk; exact bk.elim
end

/-! ### the field of a kept exception -/
def tXk (K : PySem.W.Frag) (f : Str) (te : TE) : TE := fun σ H Q => te σ H fun x H1 => ∃ (p C dd : Addr) (fv : List (Str × V)) (v : V), x = .ref p ∧ H1 p = some (XOk C (some dd) p) ∧ H1 dd = some (.xd fv) ∧ fv.lookup f = some v ∧ ClsX K C ∧ PySem.W.findIn K (.ref C) f = some none ∧ Q v H1
theorem xok_at {P : Program} {w : World} {H : Hp} {hp : Heap} {p C : Addr} {d : Option Addr} (hok : HOk P w H hp) (e : H p = some (XOk C d p)) : ∃ (ob : Obj) (vs : Array Value), hp.get? p = some ob ∧ Zc (.ref C) d ob ∧ ob.data = .fields vs := (hok p _ e).1
def mXf (cs : List Str) (f : Str) (a : ME) : ME := fun ρ h => (a ρ h).bind fun x h1 => match x with
  | .xo c f' v => if c ∈ cs ∧ f' = f ∧ f ≠ Str.ofString "" then .ok v h1 else .bad
  | _ => .bad
/-! ### isinstance of a kept exception -/
def XAt (H : Hp) (p C : Addr) : Prop := ∃ d, H p = some (XOk C d p) ∧ (d = none ∨ ∃ dd fv, d = some dd ∧ H dd = some (.xd fv))
theorem xat_kit {X : Cx} {pins : List (Addr × Obj)} {σ : L2.St} {H : Hp} {s : Shared} {p C : Addr} (I : Inv X pins σ H s) (T : ClsX X.K C) (h : XAt H p C) : ∃ Pr : Heap → Prop, PySem.W.KitX X.K (.ref p) (.ref C) Pr ∧ Pr s.heap := by
  obtain ⟨d, e1, e2⟩ := h
  obtain ⟨ob, vs, ho, hz, hd⟩ := xok_at I.hok e1
  have nc : PySem.W.notCls ob = true := by unfold PySem.W.notCls; rw [hd] <;> rfl
  rcases e2 with rfl | ⟨dd, fv, rfl, e3⟩
  · exact ⟨_, PySem.W.kitx_exc (ox := ob) (od := none) T.cl T.ga T.gg T.sb T.ca T.cg T.ct T.mo, ⟨ho, hz.1, nc, by rw [hz.2]; trivial⟩⟩
  · obtain ⟨mA, hns, _⟩ := (show ObjOk X.prog X.w H s.heap dd (.xd fv) from I.hok dd _ e3)
    obtain ⟨od, hod, _⟩ := lookIn_ns hns
    exact ⟨_, PySem.W.kitx_exc (ox := ob) (od := some od) T.cl T.ga T.gg T.sb T.ca T.cg T.ct T.mo, ⟨ho, hz.1, nc, by rw [hz.2]; exact hod⟩⟩
def Det (c : V) (u : Value) : Prop := ∀ w, RelV c w → w = u
theorem dets : ∀ {cs : List V} {us ws : List Value}, Paired Det cs us → Vals cs ws → ws = us
  | _, _, _, .nil, .nil => rfl
  | _, _, _, .cons a b, .cons r t => by rw [a _ r, dets b t]
def rIsXk (K : PySem.W.Frag) : List V → Hp → VK → Prop := fun xs H Q => ∃ (p C : Addr) (c : V) (cv : Value) (b : Bool), xs = [.ref p, c] ∧ XAt H p C ∧ Det c cv ∧ ClsX K C ∧ PySem.W.kitOne K (.ref C) cv = some b ∧ Q (.bl b) H
theorem call_isXk {X : Cx} : CallR X (.builtin "isinstance") (rIsXk X.K) := by
  intro pins s σ H xs us Q I rr hh
  obtain ⟨p, C, c, cv, b, rfl, hx, hc, T, e, q⟩ := hh
  obtain ⟨u1, u2, rfl, r1, r2⟩ := vals2 rr
  cases (show u1 = Value.ref p from r1)
  cases hc _ r2
  obtain ⟨Pr, Z, z⟩ := xat_kit I T hx
  exact PySem.W.kia_one Z I.kIn z e (fun z => nomatch z) fun tk => ⟨.bl b, H, I.tok tk, rfl, q⟩
def rIsXt (K : PySem.W.Frag) : List V → Hp → VK → Prop := fun xs H Q => ∃ (p C tp : Addr) (o : Obj) (cs : List V) (cv : List Value) (b : Bool), xs = [.ref p, .ref tp] ∧ XAt H p C ∧ H tp = some (.frz o (.tup cs)) ∧ Paired Det cs cv ∧ ClsX K C ∧ PySem.W.kitAny K (.ref C) cv = some b ∧ Q (.bl b) H
theorem call_isXt {X : Cx} : CallR X (.builtin "isinstance") (rIsXt X.K) := by
  intro pins s σ H xs us Q I rr hh
  obtain ⟨p, C, tp, o, cs, cv, b, rfl, hx, hT, hc, T, e, q⟩ := hh
  obtain ⟨u1, u2, rfl, r1, r2⟩ := vals2 rr
  cases (show u1 = Value.ref p from r1)
  cases (show u2 = Value.ref tp from r2)
  obtain ⟨Pr, Z, z⟩ := xat_kit I T hx
  obtain ⟨_, _, its, rv, ob, h1, h2, n, h3⟩ := (show ObjOk X.prog X.w H s.heap tp (.frz o (.tup cs)) from I.hok tp _ hT)
  cases dets hc rv
  obtain ⟨oc, od, dt, sl⟩ := ob
  simp only at h2 h3
  subst h2 h3
  exact PySem.W.kia_tup Z I.kIn z h1 e (fun z => nomatch z) fun tk => ⟨.bl b, H, I.tok tk, rfl, q⟩
def mIsX (tab : List (Str × Bool)) (a : ME) : ME := fun ρ h => (a ρ h).bind fun x h1 => match x with
  | .xo c _ _ => match tab.lookup c with
    | some b => .ok (.bl b) h1
    | none => .bad
  | _ => .bad
theorem xat_of {g : G} {H : Hp} {μ : List Addr} {p C : Addr} {d : Option Addr} {f : Str} {v : V} (h1 : H p = some (XOk C d p)) (h3 : (f = Str.ofString "" ∧ d = none) ∨ ∃ dd fv, d = some dd ∧ H dd = some (.xd fv) ∧ fv.lookup f = some v) : XAt H p C :=
  ⟨d, h1, by
    rcases h3 with ⟨_, h⟩ | ⟨dd, fv, h, h', _⟩
    · exact .inl h
    · exact .inr ⟨dd, fv, h, h'⟩⟩
section
variable {X : Cx} {W : WX} {a : Expr} {ma : ME} {p p2 p3 pos : Pos} {y : Str} {tab : List (Str × Bool)}
theorem se_isX {cv : Value} {v : V} (ha : PE X a (tE (gOf X.w X.K) W ma)) (hm : X.mg "isinstance" = none) (hy : PE X (.Name y p2) (tC v)) (hd : Det v cv) (ht : TabX X.K tab fun C b => PySem.W.kitOne X.K (.ref C) cv = some b) (hg : Gl X "isinstance" := by rfl)
    (s1 : starEach [a, .Name y p2] X.env = (false, eval a X.env) :: starEach [.Name y p2] X.env := by rfl) (s2 : starEach [.Name y p2] X.env = (false, eval (.Name y p2) X.env) :: starEach [] X.env := by rfl)
    (hpl : (backTo pos (starEach [.Name y p2] X.env)).any (·.1) = false := by rfl) : PE X (.Call (.Name "isinstance" p) [a, .Name y p2] [] pos) (tE (gOf X.w X.K) W (mIsX tab ma)) :=
  pe_mono (pe_callB call_isXk hg hm (by decide +kernel) (pa_cons ha (pa_cons hy pa_nil s2) s1) (by decide) (by decide) s1 hpl) fun σ H Q ⟨ρ, h, μ, sr, hr, bk⟩ =>
    step (rel := VR) (rel' := VR) (ma := ma) (Q' := Q) sr hr bk fun x d h1 H1 μ1 m1 sr1 hr1 vx bk1 => by
      cases vx with
      | @xo p C d c f v dv e1 e2 e3 e4 =>
        dsimp only at bk1
        cases l : tab.lookup c with
        | none => rw [l] at bk1; exact bk1.elim
        | some b =>
          rw [l] at bk1
          obtain ⟨t1, t2⟩ := ht c b C l e2
          exact ⟨p, C, _, cv, b, rfl, xat_of (g := gOf X.w X.K) (μ := μ1) e1 e3, hd, t1, t2, bk1.val hr1 (.bl b)⟩
      | _ => exact bk1.elim
/-- names of classes -/
inductive NmX (X : Cx) : List Expr → List V → List Value → Prop
  | nil : NmX X [] [] []
  | cons {y : Str} {p : Pos} {D : Addr} {es : List Expr} {vs : List V} {us : List Value} : PE X (.Name y p) (tC (.ref D)) → starEach (.Name y p :: es) X.env = (false, eval (.Name y p) X.env) :: starEach es X.env → NmX X es vs us → NmX X (.Name y p :: es) (.ref D :: vs) (.ref D :: us)
theorem NmX.pa : ∀ {es : List Expr} {vs : List V} {us : List Value}, NmX X es vs us → PA X es (fun σ H Q => Q vs H) ∧ Paired Det vs us ∧ vs.length = es.length
  | _, _, _, .nil => ⟨pa_mono pa_nil fun _ _ _ q => q, .nil, rfl⟩
  | _, _, _, .cons a b c => by
    obtain ⟨h1, h2, h3⟩ := c.pa
    exact ⟨pa_mono (pa_cons a h1 b) fun _ _ _ q => q, .cons (fun w r => r) h2, by simp [h3]⟩
theorem se_isXT {es : List Expr} {vs : List V} {cv : List Value} {kx : Nat} (ha : PE X a (tE (gOf X.w X.K) W ma)) (hm : X.mg "isinstance" = none) (hy : NmX X es vs cv) (hl : es.length ≤ 100) (ht : TabX X.K tab fun C b => PySem.W.kitAny X.K (.ref C) cv = some b) (hg : Gl X "isinstance" := by rfl)
    (s1 : starEach [a, .Tuple es kx p2] X.env = (false, eval a X.env) :: starEach [.Tuple es kx p2] X.env := by rfl) (s2 : starEach [.Tuple es kx p2] X.env = (false, eval (.Tuple es kx p2) X.env) :: starEach [] X.env := by rfl)
    (hpl : (backTo pos (starEach [.Tuple es kx p2] X.env)).any (·.1) = false := by rfl) : PE X (.Call (.Name "isinstance" p) [a, .Tuple es kx p2] [] pos) (tE (gOf X.w X.K) W (mIsX tab ma)) := by
  obtain ⟨n1, n2, n3⟩ := hy.pa
  refine pe_mono (pe_callB call_isXt hg hm (by decide +kernel) (pa_cons ha (pa_cons (pe_tupF n1) pa_nil s2) s1) (by decide) (by decide) s1 hpl) fun σ H Q ⟨ρ, h, μ, sr, hr, bk⟩ => ?_
  refine step (rel := VR) (rel' := VR) (ma := ma) (Q' := Q) sr hr bk fun x d h1 H1 μ1 m1 sr1 hr1 vx bk1 => ?_
  cases vx with
  | @xo p C d c f v dv e1 e2 e3 e4 =>
    dsimp only at bk1
    cases l : tab.lookup c with
    | none => rw [l] at bk1; exact bk1.elim
    | some b =>
      rw [l] at bk1
      obtain ⟨t1, t2⟩ := ht c b C l e2
      refine ⟨by rw [n3]; exact Nat.le_trans hl (by rw [sizeLine_eq]; decide), fun tp ob np od => ?_⟩
      have m2 : Mon (gOf X.w X.K) H1 (upd H1 tp (.frz ob (.tup vs))) μ1 μ1 := (Saf.fresh np).mon
      have xa := xat_of (g := gOf X.w X.K) (μ := μ1) e1 e3
      refine ⟨p, C, tp, ob, vs, cv, b, rfl, ?_, upd_same, n2, t1, t2, (Bk.mono m2 bk1).val (hr1.laid np) (.bl b)⟩
      obtain ⟨d', x1, x2⟩ := xa
      refine ⟨d', by rw [upd_ne (ne_of_none x1 np)]; exact x1, ?_⟩
      rcases x2 with x2 | ⟨dd, fv, x2, x3⟩
      · exact .inl x2
      · exact .inr ⟨dd, fv, x2, by rw [upd_ne (ne_of_none x3 np)]; exact x3⟩
  | _ => exact bk1.elim
end
end Mi

/-! Raising: a class with one field, a class without. -/
namespace Mi
open PySem L2 PySem.Spec PyProof.Rows
def spInit (K : PySem.W.Frag) (f : Str) : Sp := fun vs H Q _ => ∃ (p C : Addr) (y : V), vs = [.ref p, y] ∧ OexC K C ∧ PySem.W.findIn K (.ref C) f = some none ∧ H p = some (exo p C none) ∧
  ∀ dx, H dx = none → dx ≠ p → Q .non (upd (upd H dx (exd dx [(f, y)])) p (exo p C (some dx)))
section
variable {P : Program} {w : World} {K : PySem.W.Frag} {mg : Str → Option Value} {base : Heap}
theorem xi_fn {x qual f : Str} {st : Stmt} {fI : Addr} {fd : FuncData} (F : Fun K x qual st fI fd) (S : FnScope ["self", f] ["self", f] (defScope st))
    (hb : ∀ (cdv : Value) (A : Around) (outer : List Env) (s : Shared) (H : Hp) (E : XK), PSs (cxOf (L2.CX P w) P w K mg base ["self", f] qual (defScope st) fI cdv A outer s H E) (defBody st) (tOst K f (tVar 0) (tVar 1))) :
    FnOk P w K mg base (L2.CX P w) 1 fI fd ["self", f] (spInit K f) :=
  F.okX S (fun vs H Q E h => by obtain ⟨_, _, _, rfl, _⟩ := h; rfl) fun cdv A outer s H vs Q E hr h => ⟨_, hb cdv A outer s H E, by
    obtain ⟨p, C, y, rfl, T, hno, e, q⟩ := h
    exact ⟨y, rfl, .ref p, rfl, p, C, rfl, T, hno, .inl ⟨e, fun dx n ne => q dx n ne⟩⟩⟩
/-- a class with one field -/
def XI (P : Program) (w : World) (K : PySem.W.Frag) (mg : Str → Option Value) (base : Heap) (c f : Str) : Prop := ∃ (C fI : Addr) (fd : FuncData), cmOf K c = some C ∧ mg c = some (.ref C) ∧ OexC K C ∧
  PySem.W.findIn K (.ref C) "__init__" = some (some (.ref fI)) ∧ PySem.W.typeIn K (.ref fI) = some (.type "function") ∧ PySem.W.findIn K (.ref C) f = some none ∧ FnOk P w K mg base (L2.CX P w) 1 fI fd ["self", f] (spInit K f) ∧ Binds K fd ["self", f] []
/-- a class without -/
def X0 (K : PySem.W.Frag) (mg : Str → Option Value) (c : Str) : Prop := ∃ C : Addr, cmOf K c = some C ∧ mg c = some (.ref C) ∧ PySem.W.excIn K C [.type "ValueError", .type "Exception", .type "BaseException", .type "object"] "ValueError.__new__" = true ∧
  PySem.W.keepIn K (.ref C) = true ∧ PySem.W.subIn K (.ref C) (.type "BaseException") = some true ∧ PySem.W.typeIn K (.ref C) = some (.type "type")
end
def mRaise (c f : Str) (a : ME) : MS := fun ρ h => (a ρ h).out ρ fun d h1 => .exc c [(f, d)] ρ h1
def mRaise0 (c : Str) : MS := fun ρ h => .exc c [] ρ h
theorem passF {X : Cx} : Passes (L2.CX X.prog X.w) X (fun _ _ _ => False) := fun pins σ H s e s' I c => by
  obtain ⟨_, _, _, _, _, _, _, _, _, _, _, _, z⟩ := c
  exact z.elim
theorem made_heap {H : Hp} {p dx C : Addr} {f : Str} {y : V} (np : H p = none) (ne : dx ≠ p) : upd (del (upd (upd (upd H p (exo p C none)) dx (exd dx [(f, y)])) p (exo p C (some dx))) p) dx (.xd [(f, y)]) = upd H dx (.xd [(f, y)]) := by
  funext b
  by_cases h1 : b = dx
  · subst h1
    rw [upd_same, upd_same]
  · rw [upd_ne h1, upd_ne h1]
    by_cases h2 : b = p
    · subst h2
      rw [del_same, np]
    · rw [del_ne h2, upd_ne h2, upd_ne h1, upd_ne h2]
section
variable {X : Cx} {W : WX} {e : Expr} {me : ME} {c f m : Str} {p p2 pos pos2 : Pos} {j : Nat}
theorem sx_raise (I : XI X.prog X.w X.K X.mg X.base c f) (hr : Room 2 X.A) (tk : Takes X W) (he : PE X e (tE (gOf X.w X.K) W me)) (hc : X.calm = true := by rfl) (hg : Gl X c := by rfl) (hdb : (c == ("__debug__" : Str)) = false := by decide)
    (s1 : starEach [e] X.env = (false, eval e X.env) :: starEach [] X.env := by rfl) (hpl : (backTo pos (starEach [] X.env)).any (·.1) = false := by rfl) :
    PS X (.Raise (some (.Call (.Name c p) [e] [] pos)) none pos2) (tS (gOf X.w X.K) W (mRaise c f me)) := by
  obtain ⟨C, fI, fd, cm, hm, T, iC, tI, hno, F1, hb⟩ := I
  refine ps_mono (ps_raise hc tk (pmk_oex (dvs := []) T iC tI F1 hr hb .nil passF hg hm (pa_cons he pa_nil s1) hdb s1 hpl)) fun E σ H ⟨ρ, h, μ, sr, hr', bk⟩ => ?_
  refine stepS (rel := VR) (ma := me) (E := E) sr hr' bk fun v d h1 H1 μ1 m1 sr1 hr1 vx bk1 => ?_
  refine ⟨by show 1 ≤ 1000; decide, fun q nq => ⟨q, C, v, rfl, T, hno, upd_same, fun dx nx ne => ⟨rfl, dx, [(f, v)], upd_same, ?_, ?_, ?_⟩⟩⟩
  · rw [upd_ne ne, upd_same]
  · rw [upd_ne ne] at nx; exact nx
  · rw [made_heap nq ne]
    rw [upd_ne ne] at nx
    have m2 : Mon (gOf X.w X.K) H1 (upd H1 dx (.xd [(f, v)])) μ1 μ1 := (Saf.fresh nx).mon
    exact bk1 _ _ σ _ μ1 m2 (sr1.mono m2) (hr1.laid nx) ⟨C, rfl, cm, .inr ⟨dx, _, by simp, rfl, upd_same, .cons (vx.mono m2) .nil⟩⟩
theorem sx_raise0 (I : X0 X.K X.mg c) (tk : Takes X W) (hc : X.calm = true := by rfl) (hg : Gl X c := by rfl) (hdb : (c == ("__debug__" : Str)) = false := by decide) :
    PS X (.Raise (some (.Call (.Name c p) [.Constant (.str m) j p2] [] pos)) none pos2) (tS (gOf X.w X.K) W (mRaise0 c)) := by
  obtain ⟨C, cm, hm, x1, kp, sb, ty⟩ := I
  exact ps_mono (ps_raise hc tk (pmk_own PySem.F.excBase_ValueError x1 hm kp (raises_own sb ty) hg hdb)) fun E σ H ⟨ρ, h, μ, sr, hr', bk⟩ => bk _ none σ H μ Mon.refl sr hr' ⟨C, rfl, cm, .inl ⟨rfl, rfl⟩⟩
end
/-! ### tables by truths -/
section
variable {K : PySem.W.Frag} {h : Heap} {mg : Str → Option Value}
theorem cm_mg {x : Str} {C : Addr} (X : K.In h) (G : h.Ns mainGlobals mg) (e : cmOf K x = some C) : mg x = some (.ref C) := by
  unfold cmOf at e
  split at e
  · rename_i C' q
    cases e
    exact PySem.W.mg_of X G q
  · cases e
/-- the class y, as isinstance and except ask for it -/
def IsT (K : PySem.W.Frag) (mg : Str → Option Value) (y : Str) (l : List (Str × Bool)) : Prop := ∃ D, mg y = some (.ref D) ∧ TabX K l fun C b => PySem.W.kitOne K (.ref C) (.ref D) = some b
def ExT (K : PySem.W.Frag) (mg : Str → Option Value) (y : Str) (l : List (Str × Bool)) : Prop := ∃ D, mg y = some (.ref D) ∧ TabX K l fun C b => PySem.W.exmOne K (.ref C) (.ref D) = some b
def isTB (K : PySem.W.Frag) (y : Str) (l : List (Str × Bool)) : Bool := match cmOf K y with
  | some D => tabXB K l fun C b => PySem.W.kitOne K (.ref C) (.ref D) == some b
  | none => false
def exTB (K : PySem.W.Frag) (y : Str) (l : List (Str × Bool)) : Bool := match cmOf K y with
  | some D => tabXB K l fun C b => PySem.W.exmOne K (.ref C) (.ref D) == some b
  | none => false
theorem isTB_ok {y : Str} {l : List (Str × Bool)} (X : K.In h) (G : h.Ns mainGlobals mg) (e : isTB K y l = true) : IsT K mg y l := by
  unfold isTB at e
  split at e
  · rename_i D q
    exact ⟨D, cm_mg X G q, tabXB_ok (fun C b z => by simpa using z) e⟩
  · cases e
theorem exTB_ok {y : Str} {l : List (Str × Bool)} (X : K.In h) (G : h.Ns mainGlobals mg) (e : exTB K y l = true) : ExT K mg y l := by
  unfold exTB at e
  split at e
  · rename_i D q
    exact ⟨D, cm_mg X G q, tabXB_ok (fun C b z => by simpa using z) e⟩
  · cases e
/-- a built-in class -/
def IsB (K : PySem.W.Frag) (y : String) (l : List (Str × Bool)) : Prop := TabX K l fun C b => PySem.W.kitOne K (.ref C) (.type y) = some b
def isBB (K : PySem.W.Frag) (y : String) (l : List (Str × Bool)) : Bool := tabXB K l fun C b => PySem.W.kitOne K (.ref C) (.type y) == some b
theorem isBB_ok {y : String} {l : List (Str × Bool)} (e : isBB K y l = true) : IsB K y l := tabXB_ok (fun C b z => by simpa using z) e
/-- several classes -/
def refsOf (K : PySem.W.Frag) : List Str → Option (List Addr)
  | [] => some []
  | y :: r => match cmOf K y, refsOf K r with
    | some D, some l => some (D :: l)
    | _, _ => none
def IsTs (K : PySem.W.Frag) (mg : Str → Option Value) (ys : List Str) (l : List (Str × Bool)) : Prop := ∃ Ds : List Addr, Paired (fun y D => mg y = some (.ref D)) ys Ds ∧ TabX K l fun C b => PySem.W.kitAny K (.ref C) (Ds.map .ref) = some b
def isTsB (K : PySem.W.Frag) (ys : List Str) (l : List (Str × Bool)) : Bool := match refsOf K ys with
  | some Ds => tabXB K l fun C b => PySem.W.kitAny K (.ref C) (Ds.map .ref) == some b
  | none => false
theorem refsOf_ok (X : K.In h) (G : h.Ns mainGlobals mg) : ∀ {ys : List Str} {Ds : List Addr}, refsOf K ys = some Ds → Paired (fun y D => mg y = some (.ref D)) ys Ds
  | [], _, e => by cases e; exact .nil
  | y :: r, _, e => by
    simp only [refsOf] at e
    split at e
    · rename_i D l h1 h2
      cases e
      exact .cons (cm_mg X G h1) (refsOf_ok X G h2)
    · cases e
theorem isTsB_ok {ys : List Str} {l : List (Str × Bool)} (X : K.In h) (G : h.Ns mainGlobals mg) (e : isTsB K ys l = true) : IsTs K mg ys l := by
  unfold isTsB at e
  split at e
  · rename_i Ds q
    exact ⟨Ds, refsOf_ok X G q, tabXB_ok (fun C b z => by simpa using z) e⟩
  · cases e
/-- a field -/
def FlT (K : PySem.W.Frag) (f : Str) (cs : List Str) : Prop := ∀ c ∈ cs, ∀ C, cmOf K c = some C → ClsX K C ∧ PySem.W.findIn K (.ref C) f = some none
def flTB (K : PySem.W.Frag) (f : Str) (cs : List Str) : Bool := cs.all fun c => match cmOf K c with
  | some C => clsXB K C && decide (PySem.W.findIn K (.ref C) f = some none)
  | none => false
theorem flTB_ok {f : Str} {cs : List Str} (e : flTB K f cs = true) : FlT K f cs := fun c hc C q => by
  have z := List.all_eq_true.mp e c hc
  rw [q] at z
  obtain ⟨z1, z2⟩ := Bool.and_eq_true_iff.mp z
  exact ⟨clsXB_ok z1, of_decide_eq_true z2⟩
/-- a class without fields, to be raised -/
def x0B (K : PySem.W.Frag) (c : Str) : Bool := match cmOf K c with
  | some C => PySem.W.excIn K C [.type "ValueError", .type "Exception", .type "BaseException", .type "object"] "ValueError.__new__" && (PySem.W.keepIn K (.ref C) && (decide (PySem.W.subIn K (.ref C) (.type "BaseException") = some true) && decide (PySem.W.typeIn K (.ref C) = some (.type "type"))))
  | none => false
theorem x0B_ok {c : Str} (X : K.In h) (G : h.Ns mainGlobals mg) (e : x0B K c = true) : X0 K mg c := by
  unfold x0B at e
  split at e
  · rename_i C q
    simp only [Bool.and_eq_true, decide_eq_true_eq] at e
    exact ⟨C, q, cm_mg X G q, e.1, e.2.1, e.2.2.1, e.2.2.2⟩
  · cases e
theorem xi_mk {P : Program} {w : World} {base : Heap} {c f qual : Str} {st : Stmt} {C fI : Addr} {oc : Value} {od an : Option Addr} {osl : Array (Option Value)} {kV doc pm cdv ct : Value}
    (X : K.In h) (G : h.Ns mainGlobals mg) (a : PySem.W.nsIn K mainGlobals c = some (some (.ref C))) (hcls : OexC K C) (iC : PySem.W.findIn K (.ref C) "__init__" = some (some (.ref fI))) (tI : PySem.W.typeIn K (.ref fI) = some (.type "function")) (hno : PySem.W.findIn K (.ref C) f = some none)
    (l : K.lookup fI = some ⟨oc, od, .func (PySem.W.fnOf "__init__" qual (defArgs st) (defBody st) (defScope st) .none kV doc pm an cdv ct), osl⟩) (e : PySem.W.codeIn K cdv qual = true) (k : PySem.W.keepIn K (.ref fI) = true)
    (S : FnScope ["self", f] ["self", f] (defScope st))
    (hb : ∀ (fd : FuncData), Fun K "__init__" qual st fI fd → ∀ (cdv : Value) (A : Around) (outer : List Env) (s : Shared) (H : Hp) (E : XK), PSs (cxOf (L2.CX P w) P w K mg base ["self", f] qual (defScope st) fI cdv A outer s H E) (defBody st) (tOst K f (tVar 0) (tVar 1)))
    (hbn : ∀ (kV doc pm : Value) (an : Option Addr) (cdv ct : Value) (us : List Value), us.length = 2 → bindArgs (PySem.W.fnOf "__init__" qual (defArgs st) (defBody st) (defScope st) .none kV doc pm an cdv ct) ⟨us, []⟩ = pure ((["self", f] : List Str).zip us)) : XI P w K mg base c f := by
  have F := fun_mk (st := st) l e k
  exact ⟨C, fI, _, by unfold cmOf; rw [a], PySem.W.mg_of X G a, hcls, iC, tI, hno, xi_fn F S (hb _ F), F.binds hbn⟩
end

/-- a class over ValueError whose instances get fields -/
def oexB (K : PySem.W.Frag) (C : Addr) : Bool := (match K.lookup C with
  | some ⟨.type "type", _, .cls cd, sl⟩ => (match cd.mro, sl.toList with
    | .ref D :: bm, [_, _, _, _, some (.builtin n), _] => (D == C && (n == "ValueError.__new__" && (!cd.hasDel && (cd.hasDict && PySem.HandSPX.refsVE bm))))
    | _, _ => false)
  | _ => false) && (decide (PySem.W.findIn K (.ref C) "__setattr__" = some (some (.builtin "object.__setattr__"))) && (decide (PySem.W.subIn K (.ref C) (.type "BaseException") = some true) && (decide (PySem.W.typeIn K (.ref C) = some (.type "type")) && PySem.W.keepIn K (.ref C))))
theorem oexB_ok {K : PySem.W.Frag} {C : Addr} (h : oexB K C = true) : OexC K C := by
  unfold oexB at h
  obtain ⟨h, h'⟩ := Bool.and_eq_true_iff.mp h
  simp only [Bool.and_eq_true, decide_eq_true_eq] at h'
  obtain ⟨h1, h2, h3, h4⟩ := h'
  refine ⟨?_, h1, h2, h3, h4⟩
  split at h
  · rename_i dd cd sl ho
    split at h
    · rename_i D bm k0 k1 k2 k3 n k5 hm hs
      simp only [Bool.and_eq_true, beq_iff_eq, Bool.not_eq_true'] at h
      obtain ⟨rfl, rfl, hdel, hdd, hre⟩ := h
      obtain ⟨nm, bs, mro, ns, qn, hd, sn, sub, ab, col, del⟩ := cd
      dsimp only at hm hdel hdd
      subst hm hdel hdd
      have hsl : sl = #[k0, k1, k2, k3, some (.builtin "ValueError.__new__"), k5] := by
        obtain ⟨l⟩ := sl
        simp only at hs
        rw [hs]
      subst hsl
      exact ⟨nm, qn, ns, bs, bm, sn, sub, ab, col, dd, k0, k1, k2, k3, k5, ho, hre⟩
    · cases h
  · cases h
def inner (s : Stmt) (j : Nat) : Stmt := match s with
  | .ClassDef (body := b) .. => b.getD j (.Pass ⟨0, 0, 0, 0⟩)
  | _ => .Pass ⟨0, 0, 0, 0⟩
/-! ### as the generator writes them -/
section
variable {X : Cx} {W : WX} {a : Expr} {ma : ME} {x y n r : Str} {i j : Nat} {body : List Stmt} {mb : MS} {tab : List (Str × Bool)} {p p2 pos qn q0 q1 q2 q3 q4 : Pos}
theorem sx_try (T : ExT X.K X.mg x tab) (tk : Takes X W)
    (hbd : ∀ (W : WX) (pn : List (Addr × Obj)) (xe : Value → Shared → Prop), Takes (X.tr pn xe) W → PSs (X.tr pn xe) body (tS (gOf X.w X.K) W mb)) (hND : X.N.Nodup) (hg : Gl X x := by rfl) (hdb : (x == ("__debug__" : Str)) = false := by decide)
    (hi : X.N[i]? = some n := by rfl) (hj : X.N[j]? = some r := by rfl) (hij : i ≠ j := by decide) (hln : X.env.kindOf n = some .local := by rfl) (hlr : X.env.kindOf r = some .local := by rfl)
    (hst : X.stack = X.env :: X.outer := by rfl) (hfm : X.env.frame = some X.env.locals := by rfl) (hex : X.ex = [] := by rfl)
    (hdn : (n == ("__debug__" : Str)) = false := by decide) (hcd : (n == ("__classdict__" : Str)) = false := by decide)
    (hsw : swapsWith (.Name n q2) (some (.Name r q1)) q3.line X.env = pure false := by rfl) :
    PS X (.Try body [.ExceptHandler (some (.Name x qn)) (some n) [.Assign [.Name r q1] (.Name n q2) q3] q0] [] [] q4) (tS (gOf X.w X.K) W (mTryK tab i j mb)) := by
  obtain ⟨D, h1, h2⟩ := T
  exact sx_tryK tk ⟨hg, hdb, .inl h1⟩ h2 hbd hND hi hj hij hln hlr hst hfm hex hdn hcd hsw
theorem se_isO (T : IsT X.K X.mg y tab) (ha : PE X a (tE (gOf X.w X.K) W ma)) (hm : X.mg "isinstance" = none) (hgy : Gl X y := by rfl) (hdy : (y == ("__debug__" : Str)) = false := by decide) (hg : Gl X "isinstance" := by rfl)
    (s1 : starEach [a, .Name y p2] X.env = (false, eval a X.env) :: starEach [.Name y p2] X.env := by rfl) (s2 : starEach [.Name y p2] X.env = (false, eval (.Name y p2) X.env) :: starEach [] X.env := by rfl)
    (hpl : (backTo pos (starEach [.Name y p2] X.env)).any (·.1) = false := by rfl) : PE X (.Call (.Name "isinstance" p) [a, .Name y p2] [] pos) (tE (gOf X.w X.K) W (mIsX tab ma)) := by
  obtain ⟨D, h1, h2⟩ := T
  exact se_isX (cv := .ref D) (v := .ref D) ha hm (pe_glob hgy h1 rfl hdy) (fun w r => r) h2 hg s1 s2 hpl
theorem se_isV {t : String} (T : IsB X.K t tab) (ha : PE X a (tE (gOf X.w X.K) W ma)) (hm : X.mg "isinstance" = none) (hmy : X.mg y = none) (hv : bootBuiltins y = some (.type t)) (hgy : Gl X y := by rfl) (hny : y ≠ "__name__" := by decide) (hdy : (y == ("__debug__" : Str)) = false := by decide) (hg : Gl X "isinstance" := by rfl)
    (s1 : starEach [a, .Name y p2] X.env = (false, eval a X.env) :: starEach [.Name y p2] X.env := by rfl) (s2 : starEach [.Name y p2] X.env = (false, eval (.Name y p2) X.env) :: starEach [] X.env := by rfl)
    (hpl : (backTo pos (starEach [.Name y p2] X.env)).any (·.1) = false := by rfl) : PE X (.Call (.Name "isinstance" p) [a, .Name y p2] [] pos) (tE (gOf X.w X.K) W (mIsX tab ma)) :=
  se_isX (cv := .type t) (v := .ty t) ha hm (pe_bltn hgy hmy hv rfl hny hdy) (fun w r => r) T hg s1 s2 hpl
inductive NmE (X : Cx) : List Expr → List Str → Prop
  | nil : NmE X [] []
  | cons {y : Str} {p : Pos} {es : List Expr} {ys : List Str} : Gl X y → (y == ("__debug__" : Str)) = false → starEach (.Name y p :: es) X.env = (false, eval (.Name y p) X.env) :: starEach es X.env → NmE X es ys → NmE X (.Name y p :: es) (y :: ys)
theorem nm_cons {y : Str} {p : Pos} {es : List Expr} {ys : List Str} (h : NmE X es ys) (hg : Gl X y := by rfl) (hd : (y == ("__debug__" : Str)) = false := by decide) (hs : starEach (.Name y p :: es) X.env = (false, eval (.Name y p) X.env) :: starEach es X.env := by rfl) : NmE X (.Name y p :: es) (y :: ys) := .cons hg hd hs h
theorem NmE.of : ∀ {es : List Expr} {ys : List Str} {Ds : List Addr}, NmE X es ys → Paired (fun y D => X.mg y = some (.ref D)) ys Ds → NmX X es (Ds.map .ref) (Ds.map .ref)
  | _, _, _, .nil, .nil => .nil
  | _, _, _, .cons a b c d, .cons e f => .cons (pe_glob a e rfl b) c (NmE.of d f)
theorem se_isOs {es : List Expr} {ys : List Str} {kx : Nat} (T : IsTs X.K X.mg ys tab) (ha : PE X a (tE (gOf X.w X.K) W ma)) (hm : X.mg "isinstance" = none) (hy : NmE X es ys) (hl : es.length ≤ 100 := by decide) (hg : Gl X "isinstance" := by rfl)
    (s1 : starEach [a, .Tuple es kx p2] X.env = (false, eval a X.env) :: starEach [.Tuple es kx p2] X.env := by rfl) (s2 : starEach [.Tuple es kx p2] X.env = (false, eval (.Tuple es kx p2) X.env) :: starEach [] X.env := by rfl)
    (hpl : (backTo pos (starEach [.Tuple es kx p2] X.env)).any (·.1) = false := by rfl) : PE X (.Call (.Name "isinstance" p) [a, .Tuple es kx p2] [] pos) (tE (gOf X.w X.K) W (mIsX tab ma)) := by
  obtain ⟨Ds, h1, h2⟩ := T
  exact se_isXT ha hm (hy.of h1) hl h2 hg s1 s2 hpl
end
end Mi

/-! The calculus for exceptions. -/
namespace Mi
open PySem L2
def isXK (tab : List (Str × Bool)) (x : D) (h : MH) : R D := match x with
  | .xo c _ _ => match tab.lookup c with
    | some b => .ok (.bl b) h
    | none => .bad
  | _ => .bad
def xfK (cs : List Str) (f : Str) (x : D) (h : MH) : R D := match x with
  | .xo c f' v => if c ∈ cs ∧ f' = f ∧ f ≠ Str.ofString "" then .ok v h else .bad
  | _ => .bad
def tryE (tab : List (Str × Bool)) (i j : Nat) (N : SP) (E : SX) : SX := fun c fs ρ h => match tab.lookup c with
  | some true => ∃ d, xoOf c fs = some d ∧ N (((ρ.set i none).set j (some d)).set i none) h
  | some false => E c fs ρ h
  | none => False
section
variable {N : SP} {T : D → MH → Prop} {B C : SP} {E : SX} {ρ : Slots} {h : MH} {a : ME} {b : MS} {c f : Str}
theorem w_raise (q : Sat (a ρ h) (fun d h1 => E c [(f, d)] ρ h1) fun x fs h => E x fs ρ h) : OS (mRaise c f a ρ h) N T B C E := Sat.ot (q.monoE (fun _ _ z => by rw [OS_exc]; exact z) fun _ _ _ z => z)
theorem w_raise0 (q : E c [] ρ h) : OS (mRaise0 c ρ h) N T B C E := by unfold mRaise0; rw [OS_exc]; exact q
theorem w_tryK {tab : List (Str × Bool)} {i j : Nat} (q : OS (b ρ h) N T B C (tryE tab i j N E)) : OS (mTryK tab i j b ρ h) N T B C E := by
  unfold mTryK
  cases e : b ρ h with
  | exc c fs ρ1 h1 =>
    rw [e, OS_exc] at q
    unfold tryE at q
    dsimp only
    split at q
    · rename_i l
      obtain ⟨d, e1, q⟩ := q
      (try rw [l])
      (try dsimp only)
      (try rw [e1])
      exact w_nx q
    · rename_i l
      (try rw [l])
      (try dsimp only)
      rw [OS_exc]
      exact q
    · exact q.elim
  | nx _ _ => rw [e, OS_nx] at q; exact w_nx q
  | rt _ _ => rw [e, OS_rt] at q; exact w_rt q
  | bk _ _ => rw [e, OS_bk] at q; exact w_bk q
  | ct _ _ => rw [e, OS_ct] at q; exact w_ct q
  | bad => rw [e, OS_bad] at q; exact q.elim
theorem tryE_t {tab : List (Str × Bool)} {i j : Nat} {fs : List (Str × D)} {d : D} (l : tab.lookup c = some true) (x : xoOf c fs = some d) (q : N (((ρ.set i none).set j (some d)).set i none) h) : tryE tab i j N E c fs ρ h := by
  unfold tryE
  rw [l]
  exact ⟨d, x, q⟩
variable {Q : D → MH → Prop} {X : XE}
theorem w_isX {tab : List (Str × Bool)} (q : Sat (a ρ h) (fun x h1 => Sat (isXK tab x h1) Q X) X) : Sat (mIsX tab a ρ h) Q X := Sat.bnd q
theorem w_isXK {tab : List (Str × Bool)} {v : D} {k : Bool} (l : tab.lookup c = some k) (q : Q (.bl k) h) : Sat (isXK tab (.xo c f v) h) Q X := w_eq (by simp only [isXK, l]) q
theorem w_xf {cs : List Str} (q : Sat (a ρ h) (fun x h1 => Sat (xfK cs f x h1) Q X) X) : Sat (mXf cs f a ρ h) Q X := Sat.bnd q
theorem w_xfK {cs : List Str} {v : D} (l : c ∈ cs) (n : f ≠ Str.ofString "") (q : Q v h) : Sat (xfK cs f (.xo c f v) h) Q X := w_eq (by unfold xfK; exact if_pos ⟨l, rfl, n⟩) q
theorem isN_xo {c f : Str} {v : D} (h : MH) : dIsN (.xo c f v) .non h = .ok (.bl false) h := by unfold dIsN; simp
end
theorem w_lenLm {α : Type} {f : α → D} {l : List α} {Q : D → MH → Prop} {E : XE} {h : MH} {i : Nat} (c : getL h i = some (l.map f)) (q : Q (.int l.length) h) : Sat (dLen [.ref i] h) Q E := w_lenL c (by rw [List.length_map]; exact q)
theorem w_lenTm {α : Type} {f : α → D} {l : List α} {Q : D → MH → Prop} {E : XE} {h : MH} (q : Q (.int l.length) h) : Sat (dLen [.tup (l.map f)] h) Q E := w_eq (dLen_tup _ _) (by rw [List.length_map]; exact q)
theorem dNe_strs (x y : Str) (h : MH) : dNe (.str x) (.str y) h = .ok (.bl (!decide (x = y))) h := dNe_of (by unfold eqD; simp [scalD])
theorem dEq_bls (x y : Bool) (h : MH) : dEq (.bl x) (.bl y) h = .ok (.bl (decide (x = y))) h := dEq_of (by unfold eqD; simp [scalD])
theorem dNe_bls (x y : Bool) (h : MH) : dNe (.bl x) (.bl y) h = .ok (.bl (!decide (x = y))) h := dNe_of (by unfold eqD; simp [scalD])
theorem w_iterL {QI : List D × (MH → Bool) → MH → Prop} {E : XE} {h : MH} {i : Nat} {l : List D} (e : getL h i = some l) (q : QI (l, fun h' => decide (getL h' i = some l)) h) : Sat (iter1 (.ok (.ref i) h)) QI E := w_eq (iter1_ref _ _ _ e) q
end Mi

/-! except without a name; walks from the end. -/
namespace Mi
open PySem L2
def mTryO (tab : List (Str × Bool)) (b s : MS) : MS := fun ρ h => match b ρ h with
  | .exc c fs ρ1 h1 => match tab.lookup c with
    | some true => s ρ1 h1
    | some false => .exc c fs ρ1 h1
    | none => .bad
  | o => o
section
variable {X : Cx} {x : Str} {body suite : List Stmt} {b0 : Stmt} {qn q0 q4 : Pos} {mb ms : MS} {W : WX} {tab : List (Str × Bool)}
end
def tryO (tab : List (Str × Bool)) (s : MS) (N : SP) (T : D → MH → Prop) (B C : SP) (E : SX) : SX := fun c fs ρ h => match tab.lookup c with
  | some true => OS (s ρ h) N T B C E
  | some false => E c fs ρ h
  | none => False
theorem lkA {x : Str} {k : Bool} {l : List (Str × Bool)} : List.lookup x ((x, k) :: l) = some k := by simp [List.lookup]
theorem lkB {x y : Str} {b : Bool} {l : List (Str × Bool)} {r : Option Bool} (h : (x == y) = false) (q : List.lookup x l = r) : List.lookup x ((y, b) :: l) = r := by rw [List.lookup_cons, h]; exact q
theorem w_seqM {N : SP} {T : D → MH → Prop} {B C : SP} {E : SX} {ρ : Slots} {h : MH} {sa sb : MS} (mid : SP) (q : OS (sa ρ h) mid T B C E) (k : ∀ ρ' h', mid ρ' h' → OS (sb ρ' h') N T B C E) : OS (mSeq sa sb ρ h) N T B C E := w_seq (q.mono k (fun _ _ z => z) (fun _ _ z => z) (fun _ _ z => z) (fun _ _ _ _ z => z))
end Mi

/-! Lists walked from the end; while by a measure. -/
namespace Mi
open PySem L2
def revK (x : D) (h1 : MH) : R (List D × (MH → Bool)) := match x with
  | .ref i => match getL h1 i with
    | some l => .ok (l.reverse, fun h' => decide (getL h' i = some l)) h1
    | none => .bad
  | _ => .bad
def mRevI (a : ME) : MI := fun ρ h => (a ρ h).bind fun x h1 => revK x h1
section
variable {X : Cx} {g : G} {W : WX} {e tg : Expr} {ma : ME} {p pos : Pos}
end
section
variable {N : SP} {T : D → MH → Prop} {B C : SP} {E : SX} {QI : List D × (MH → Bool) → MH → Prop} {X : XE}
theorem w_whGo {c : MT} {body : MS} (I : Nat → SP)
    (hs : ∀ m ρ h, I m ρ h → Sat (c ρ h) (fun b h1 => (b = true → OS (body ρ h1) (fun ρ' h' => ∃ m', m' < m ∧ I m' ρ' h') T N (fun ρ' h' => ∃ m', m' < m ∧ I m' ρ' h') E) ∧ (b = false → N ρ h1)) fun x fs h => E x fs ρ h) :
    ∀ (n m : Nat) (ρ : Slots) (h : MH), m < n → I m ρ h → OS (whGo c body n ρ h) N T B C E := by
  intro n
  induction n with
  | zero => intro m ρ h hm; omega
  | succ n ih =>
    intro m ρ h hm hi
    rw [whGo]
    refine Sat.ot ((hs m ρ h hi).monoE (fun b h1 q => ?_) fun _ _ _ z => z)
    cases b with
    | false =>
      rw [if_neg (by decide)]
      exact w_nx (q.2 rfl)
    | true =>
      rw [if_pos rfl]
      have q1 := q.1 rfl
      cases e : body ρ h1 with
      | nx ρ' h' =>
        rw [e, OS_nx] at q1
        obtain ⟨m', h1, h2⟩ := q1
        exact ih m' ρ' h' (by omega) h2
      | ct ρ' h' =>
        rw [e, OS_ct] at q1
        obtain ⟨m', h1, h2⟩ := q1
        exact ih m' ρ' h' (by omega) h2
      | bk ρ' h' => rw [e, OS_bk] at q1; exact w_nx q1
      | rt d h' => rw [e, OS_rt] at q1; exact w_rt q1
      | exc x fs ρ' h' => rw [e, OS_exc] at q1; simp only [OS_exc]; exact q1
      | bad => rw [e, OS_bad] at q1; exact q1.elim
theorem w_while {c : MT} {body : MS} {n : Nat} {ρ : Slots} {h : MH} (I : Nat → SP) (m : Nat) (hm : m < n) (hi : I m ρ h)
    (hs : ∀ m ρ h, I m ρ h → Sat (c ρ h) (fun b h1 => Br (b = true) (OS (body ρ h1) (fun ρ' h' => ∃ m', m' < m ∧ I m' ρ' h') T N (fun ρ' h' => ∃ m', m' < m ∧ I m' ρ' h') E) (N ρ h1)) fun x fs h => E x fs ρ h) : OS (mWhile n c body ρ h) N T B C E :=
  w_whGo I (fun m ρ h hi => (hs m ρ h hi).monoE (fun b h1 z => ⟨z.1, fun e => z.2 (by rw [e]; decide)⟩) fun _ _ _ z => z) n m ρ h hm hi
end

end Mi
namespace Mi
open PySem L2
def m_cell_at_2c4cb : List D → MH → R D := mFun 2 2
 (mSeq (mIf (mB (mBin dLt (mVar 1) (mCall dLen (mCons (mVar 0) (mNil)))))
 (mRet (mBin dIx (mVar 0) (mVar 1)))
 (mSkip))
 (mRet (mC (.int 0))))
end Mi
namespace Mi
open PySem L2
end Mi
namespace Mi
open PySem L2
end Mi
namespace Mi
open PySem L2
def m_bit_of_97f34 : List D → MH → R D := mFun 2 2
 (mSeq (mIf (mB (mBin dNotIn (mVar 1) (mBin dIx (mVar 0) (mC (.int 0)))))
 (mRaise (Str.ofString "NoForm") (Str.ofString "form") (mVar 1))
 (mSkip))
 (mRet (mBin dShl (mC (.int 1)) (mTIndex (mBin dIx (mVar 0) (mC (.int 0))) (mVar 1)))))
end Mi
namespace Mi
open PySem L2
def m_start_of_78275 : List D → MH → R D := mFun 2 2
 (mSeq (mIf (mB (mBin dIn (mVar 1) (mBin dIx (mVar 0) (mC (.int 1)))))
 (mRet (mBin dIx (mBin dIx (mVar 0) (mC (.int 2))) (mTIndex (mBin dIx (mVar 0) (mC (.int 1))) (mVar 1))))
 (mSkip))
 (mRet (mBin dIx (mBin dIx (mVar 0) (mC (.int 2))) (mUn dNeg (mC (.int 1))))))
end Mi
namespace Mi
open PySem L2
def m_lowered_0b90e : List D → MH → R D := mFun 2 7
 (mSeq (mAsg 2 (mC (.bl false)))
 (mSeq (mFor (mRange1 (mCall dLen (mCons (mVar 1) (mNil)))) (mgName 3)
 (mFor (mRange1 (mCall dLen (mCons (mVar 1) (mNil)))) (mgName 4)
 (mIf (mAnd (mB (mBin dNotN (mBin dIx (mVar 1) (mVar 3)) (mC .non))) (mB (mBin dNotN (mBin dIx (mVar 1) (mVar 4)) (mC .non))))
 (mSeq (mAsg 5 (mBin dAdd (mBin dIx (mVar 1) (mVar 3)) (mBin dIx (mVar 1) (mVar 4))))
 (mSeq (mAsg 6 (mBin dIx (mBin dIx (mBin dIx (mVar 0) (mC (.int 3))) (mVar 3)) (mVar 4)))
 (mIf (mOr (mB (mBin dIsN (mBin dIx (mVar 1) (mVar 6)) (mC .non))) (mB (mBin dLt (mVar 5) (mBin dIx (mVar 1) (mVar 6)))))
 (mSeq (mSetIx (mVar 1) (mVar 6) (mVar 5))
 (mAsg 2 (mC (.bl true))))
 (mSkip))))
 (mSkip))))
 (mRet (mVar 2))))
def m_sizes_9dfee : List D → MH → R D := mFun 1 4
 (mSeq (mAsg 1 (mLc (mIter (mBin dIx (mVar 0) (mC (.int 4)))) (mgName 3) (mYes) (mC .non) [3]))
 (mSeq (mFor (mIter (mBin dIx (mVar 0) (mC (.int 2)))) (mgName 2)
 (mSetIx (mVar 1) (mVar 2) (mC (.int 1))))
 (mSeq (mWhile 1000000000000000000000000 (mB (mCall (m_lowered_0b90e) (mCons (mVar 0) (mCons (mVar 1) (mNil)))))
 (mSkip))
 (mRet (mCall dTuple (mCons (mVar 1) (mNil)))))))
end Mi

/-! Lists and tuples many times. -/
namespace Mi
open PySem PySem.Spec PyProof.Rows L2
section
variable {X : Cx}
/-- a tuple of one item so many times -/
def rRepF (K : PySem.W.Frag) : R2 := fun x y H Q => ∃ l k z, x = .ref l ∧ y = .int k ∧ SqT K H l [z] ∧ 1 ≤ k ∧ k ≤ 1000 ∧
  (k = 1 → Q (.ref l) H) ∧ (2 ≤ k → ∀ (p : Addr) (ob : Obj), H p = none → ob.dict = none → Q (.ref p) (upd H p (.frz ob (.tup (List.replicate k.toNat [z]).flatten))))
end
def dRep : D → D → MH → R D
  | .ref i, .int n, h => match h[i]? with
    | some (.lst l) => if 0 ≤ n ∧ n ≤ 1000 ∧ l.length ≤ 1000 then .ok (.ref h.length) (h ++ [.lst (List.replicate n.toNat l).flatten]) else .bad
    | _ => .bad
  | .tup [z], .int n, h => if 1 ≤ n ∧ n ≤ 1000 then .ok (.tup (List.replicate n.toNat [z]).flatten) h else .bad
  | _, _, _ => .bad
section
variable {X : Cx} {g : G}
def rRepA (K : PySem.W.Frag) : R2 := fun x y H Q => rRep x y H Q ∨ rRepF K x y H Q
end
end Mi

/-! zip of tuples; sum, max of a list of ints. -/
namespace Mi
open PySem L2
def zipT (x y : D) (h : MH) : R (List D × (MH → Bool)) := match x, y with
  | .tup l, .tup m => .ok (zipD l m, yes) h
  | _, _ => .bad
def mZipT (a b : ME) : MI := fun ρ h => (a ρ h).bind fun x h1 => (b ρ h1).bind fun y h2 => zipT x y h2
section
variable {X : Cx} {g : G} {W : WX} {a b : Expr} {ma mb : ME} {pos : Pos}
end
/-- sum of a list of ints -/
def dSum : List D → MH → R D
  | [.ref i], h => match (getL h i).bind allInt with
    | some ns => .ok (.int ns.sum) h
    | none => .bad
  | _, _ => .bad
def topI : List Int → Int
  | [] => 0
  | [a] => a
  | a :: l => if topI l < a then a else topI l
def dMaxL : List D → MH → R D
  | [.ref i], h => match (getL h i).bind allInt with
    | some ns => if 0 < ns.length then .ok (.int (topI ns)) h else .bad
    | none => .bad
  | _, _ => .bad
section
variable {g : G}
end
/-! the calculus -/
section
variable {Q : D → MH → Prop} {QI : List D × (MH → Bool) → MH → Prop} {E : XE} {ρ : Slots} {h : MH} {a b : ME}
end
end Mi

/-! Dicts with keys (in, get, put, displays of texts); classes of the program: fields, new ones, methods, isinstance; defaults. -/
namespace Mi
open PySem L2 PySem.Spec PyProof.Rows
/-! ### dicts -/
def valD (kvs : List (Key × D)) (k : Key) : Option D := (kvs.find? fun kv => decide (kv.1 = k)).map (·.2)
def putKD (kvs : List (Key × D)) (k : Key) (v : D) : List (Key × D) :=
  if (kvs.any fun kv => decide (kv.1 = k)) = true then kvs.map (fun kv => if kv.1 = k then (kv.1, v) else kv) else kvs ++ [(k, v)]
section
variable {g : G} {H : Hp} {μ : List Addr} {h : MH}
theorem KR.val (k : Key) : ∀ {kv : List (Key × V)} {kvs : List (Key × D)}, KR g H μ kv kvs → (valV kv k = none ∧ valD kvs k = none) ∨ ∃ v d, valV kv k = some v ∧ valD kvs k = some d ∧ VR g H μ v d
  | _, _, .nil => .inl ⟨rfl, rfl⟩
  | _, _, @KR.cons _ _ _ _ k' v d vs ds a b => by
    by_cases e : k' = k
    · refine .inr ⟨v, d, valV_pos e, ?_, a⟩
      simp [valD, List.find?_cons, e]
    · have e2 : valD ((k', d) :: ds) k = valD ds k := by simp [valD, List.find?_cons, e]
      rw [valV_neg (p := (k', v)) e, e2]
      exact KR.val k b
theorem KR.any (k : Key) : ∀ {kv : List (Key × V)} {kvs : List (Key × D)}, KR g H μ kv kvs → (kv.any fun p => decide (p.1 = k)) = kvs.any fun p => decide (p.1 = k)
  | _, _, .nil => rfl
  | _, _, .cons a b => by rw [List.any_cons, List.any_cons, KR.any k b]
theorem KR.repl (k : Key) {y : V} {u : D} (r : VR g H μ y u) : ∀ {kv : List (Key × V)} {kvs : List (Key × D)}, KR g H μ kv kvs → KR g H μ (kv.map fun p => if p.1 = k then (p.1, y) else p) (kvs.map fun p => if p.1 = k then (p.1, u) else p)
  | _, _, .nil => .nil
  | _, _, @KR.cons _ _ _ _ k' v d vs ds a b => by
    rw [List.map_cons, List.map_cons]
    by_cases e : k' = k
    · simp only [e, if_true]
      exact .cons r (KR.repl k r b)
    · simp only [e, if_false]
      exact .cons a (KR.repl k r b)
theorem KR.snoc {κ : Type} {k : κ} {y : V} {u : D} (r : VR g H μ y u) : ∀ {kv : List (κ × V)} {kvs : List (κ × D)}, KR g H μ kv kvs → KR g H μ (kv ++ [(k, y)]) (kvs ++ [(k, u)])
  | _, _, .nil => .cons r .nil
  | _, _, .cons a b => .cons a (KR.snoc r b)
theorem KR.put (k : Key) {y : V} {u : D} (r : VR g H μ y u) {kv : List (Key × V)} {kvs : List (Key × D)} (h : KR g H μ kv kvs) : KR g H μ (putK kv k y) (putKD kvs k u) := by
  unfold putK putKD
  rw [h.any k]
  split
  · exact h.repl k r
  · exact h.snoc r
theorem KR.len {κ : Type} : ∀ {kv : List (κ × V)} {kvs : List (κ × D)}, KR g H μ kv kvs → kv.length = kvs.length
  | _, _, .nil => rfl
  | _, _, .cons _ b => by rw [List.length_cons, List.length_cons, KR.len b]
def getK (h : MH) (x : D) : Option (List (Key × D)) := match x with
  | .ref i => match h[i]? with
    | some (.dK l) => some l
    | _ => none
  | _ => none
theorem getK_of {x : V} {d : D} {l : List (Key × D)} (hr : HR g H μ h) (vx : VR g H μ x d) (e : getK h d = some l) : ∃ i p kv, d = .ref i ∧ x = .ref p ∧ μ[i]? = some p ∧ h[i]? = some (.dK l) ∧ H p = some (.dK kv) ∧ KR g H μ kv l := by
  cases vx with
  | @ref p i hi =>
    simp only [getK] at e
    split at e
    · rename_i l' q
      cases e
      obtain ⟨kv, h1, h2⟩ := hr.ob _ _ _ hi q
      exact ⟨i, p, kv, rfl, rfl, hi, q, h1, h2⟩
    · cases e
  | _ => cases e
end
def dDIn (a b : D) (h : MH) : R D := match keyD a, getK h b with
  | some k, some l => .ok (.bl (valD l k).isSome) h
  | _, _ => .bad
def dDNotIn (a b : D) (h : MH) : R D := match keyD a, getK h b with
  | some k, some l => .ok (.bl (!(valD l k).isSome)) h
  | _, _ => .bad
def dDIx (a b : D) (h : MH) : R D := match getK h a, keyD b with
  | some l, some k => match valD l k with
    | some v => .ok v h
    | none => .bad
  | _, _ => .bad
def dDSet (x y d : D) (h : MH) : R Unit := match x, keyD y, getK h x with
  | .ref i, some k, some l => if l.length < 1000000 then .ok () (h.set i (.dK (putKD l k d))) else .bad
  | _, _, _ => .bad
def mDSet (o i e : ME) : MS := fun ρ h => (e ρ h).out ρ fun d h1 => (o ρ h1).out ρ fun x h2 => (i ρ h2).out ρ fun y h3 => (dDSet x y d h3).out ρ fun _ h4 => .nx ρ h4
def dDLen : List D → MH → R D
  | [x], h => match getK h x with
    | some l => .ok (.int l.length) h
    | none => .bad
  | _, _ => .bad
def rDIn : R2 := fun x y H Q => ∃ a k kvs, x = kV k ∧ y = .ref a ∧ H a = some (.dK kvs) ∧ Q (.bl (valV kvs k).isSome) H
def rDNotIn : R2 := fun x y H Q => ∃ a k kvs, x = kV k ∧ y = .ref a ∧ H a = some (.dK kvs) ∧ Q (.bl (!(valV kvs k).isSome)) H
def rSetD : V → V → V → Hp → (Hp → Prop) → Prop := fun o i v H Q => ∃ a k kvs, o = .ref a ∧ i = kV k ∧ H a = some (.dK kvs) ∧ kvs.length < sizeLine ∧ Q (upd H a (.dK (putK kvs k v)))
section
variable {X : Cx} {g : G} {W : WX}
theorem op_dNotIn (hu : X.A.units + 65 < cLine) : OpR X (compareOp .NotIn) rDNotIn := fun pins s σ H x y v u Q I rx ry ⟨a, k, kvs, ex, ey, ea, q⟩ => by
  subst ex ey
  cases ry
  exact d_notIn (by omega) I (.k ea) rx fun s' I' => ⟨.bl _, H, I', rfl, q⟩
theorem set_dict (hu : X.A.units + 65 < cLine) : PSet X rSetD := fun pins s σ H o i v ov iv u Q I ro ri rv ⟨a, k, kvs, eo, ei, ea, hl, q⟩ => by
  subst eo ei
  cases ro
  exact d_setItem (by omega) I (.k ea hl) ri rv fun s' I' => ⟨_, I', q⟩
theorem val_some {H : Hp} {μ : List Addr} {kv : List (Key × V)} {l : List (Key × D)} (r : KR g H μ kv l) (k : Key) : (valV kv k).isSome = (valD l k).isSome := by
  rcases r.val k with ⟨e1, e2⟩ | ⟨v, d, e1, e2, _⟩ <;> rw [e1, e2] <;> rfl
theorem s2_dNotIn : S2 g rDNotIn dDNotIn := by
  intro H μ h x y a b Q W hr vx vy bk
  unfold dDNotIn at bk
  split at bk
  · rename_i k l e1 e2
    obtain ⟨i, p, kv, rfl, rfl, hi, q, hp, kr⟩ := getK_of hr vy e2
    exact ⟨p, k, kv, keyD_of vx e1, rfl, hp, by rw [val_some kr]; exact bk.val hr (.bl _)⟩
  · exact bk.elim
variable {o i e : Expr} {mo mi me : ME} {pos p2 : Pos}
end
/-! ### displays of texts -/
def mergeD (l : List (Str × Str)) (acc : List (Key × D)) : List (Key × D) := match l with
  | [] => acc
  | p :: r => mergeD r (putKD acc (.inr p.1) (.str p.2))
def mDictC (l : List (Str × Str)) : ME := fun _ h => .ok (.ref h.length) (h ++ [.dK (mergeD l [])])
section
variable {X : Cx} {g : G} {W : WX} {pos : Pos}
def trsC (g : G) (W : WX) (l : List (Str × Str)) : List (TE × TE) := l.map fun p => (tE g W (mC (.str p.1)), tE g W (mC (.str p.2)))
end
/-! ### classes of the program -/
def insOf (h : MH) (x : D) : Option (Nat × Str × List (Str × D)) := match x with
  | .ref i => match h[i]? with
    | some (.ins c fs) => some (i, c, fs)
    | _ => none
  | _ => none
def putFD (f : Str) (v : D) : List (Str × D) → List (Str × D)
  | [] => [(f, v)]
  | (g, x) :: r => if g = f then (g, v) :: r else (g, x) :: putFD f v r
def mFld (cs : List Str) (f : Str) (a : ME) : ME := fun ρ h => (a ρ h).bind fun x h1 => match insOf h1 x with
  | some (_, c, fs) => if c ∈ cs then match fs.lookup f with
    | some v => .ok v h1
    | none => .bad else .bad
  | none => .bad
def mSetFld (cs : List Str) (f : Str) (o e : ME) : MS := fun ρ h => (e ρ h).out ρ fun d h1 => (o ρ h1).out ρ fun x h2 => match insOf h2 x with
  | some (i, c, fs) => if c ∈ cs ∧ fs.length < 1000 then .nx ρ (h2.set i (.ins c (putFD f d fs))) else .bad
  | none => .bad
def mNew (c : Str) (F : List D → MH → R D) (r : MA) : ME := fun ρ h => (r ρ h).bind fun xs h1 => (F (.ref h1.length :: xs) (h1 ++ [.ins c []])).bind fun y h2 => match y with
  | .non => .ok (.ref h1.length) h2
  | _ => .bad
abbrev MTab := List (Str × (List D → MH → R D))
def mMethI (m : Str) (tab : MTab) (o : ME) (r : MA) : ME := fun ρ h => (o ρ h).bind fun x h1 => match insOf h1 x with
  | some (_, c, fs) => match tab.lookup c with
    | some F => if fs.lookup m = none then (r ρ h1).bind fun xs h2 => F (x :: xs) h2 else .bad
    | none => .bad
  | none => .bad
def mIsC (tab : List (Str × Bool)) (a : ME) : ME := fun ρ h => (a ρ h).bind fun x h1 => match insOf h1 x with
  | some (_, c, _) => match tab.lookup c with
    | some b => .ok (.bl b) h1
    | none => .bad
  | none => .bad
section
variable {g : G} {H : Hp} {μ : List Addr} {h : MH}
theorem ins_of {x : V} {d : D} {i : Nat} {c : Str} {fs : List (Str × D)} (hr : HR g H μ h) (vx : VR g H μ x d) (e : insOf h d = some (i, c, fs)) :
    ∃ p C dx fv, d = .ref i ∧ x = .ref p ∧ μ[i]? = some p ∧ h[i]? = some (.ins c fs) ∧ H p = some (.ins C dx fv) ∧ g.cm c = some C ∧ KR g H μ fv fs := by
  cases vx with
  | @ref p j hi =>
    simp only [insOf] at e
    split at e
    · rename_i c' fs' q
      cases e
      obtain ⟨C, dx, fv, h1, h2, h3⟩ := hr.ob _ _ _ hi q
      exact ⟨p, C, dx, fv, rfl, rfl, hi, q, h1, h2, h3⟩
    · cases e
  | _ => cases e
theorem KR.lookup (f : Str) : ∀ {fv : List (Str × V)} {fs : List (Str × D)}, KR g H μ fv fs → (fv.lookup f = none ∧ fs.lookup f = none) ∨ ∃ v d, fv.lookup f = some v ∧ fs.lookup f = some d ∧ VR g H μ v d
  | _, _, .nil => .inl ⟨rfl, rfl⟩
  | _, _, @KR.cons _ _ _ _ k v d vs ds a b => by
    rw [List.lookup_cons, List.lookup_cons]
    cases (f == k) with
    | true => exact .inr ⟨v, d, rfl, rfl, a⟩
    | false => exact KR.lookup f b
theorem KR.putF (f : Str) {y : V} {u : D} (r : VR g H μ y u) : ∀ {fv : List (Str × V)} {fs : List (Str × D)}, KR g H μ fv fs → KR g H μ (L2.putF f y fv) (putFD f u fs)
  | _, _, .nil => .cons r .nil
  | _, _, @KR.cons _ _ _ _ k v d vs ds a b => by
    show KR g H μ (if k = f then (k, y) :: vs else (k, v) :: L2.putF f y vs) (if k = f then (k, u) :: ds else (k, d) :: putFD f u ds)
    split
    · exact .cons r b
    · exact .cons a (KR.putF f r b)
end
/-- classes with a field: none of their classes has its name -/
def CT (K : PySem.W.Frag) (f : Str) (cs : List Str) : Prop := ∀ c ∈ cs, ∀ C, cmOf K c = some C → Cls K C ∧ NoAttr K C f
def clsB (K : PySem.W.Frag) (C : Addr) : Bool := PySem.W.plainGet K C Str.empty && (PySem.W.hasDictIn K C && (PySem.W.plainOver K C && decide (PySem.W.findIn K (.ref C) "__setattr__" = some (some (.builtin "object.__setattr__")))))
theorem clsB_ok {K : PySem.W.Frag} {C : Addr} (h : clsB K C = true) : Cls K C := by
  unfold clsB at h
  simp only [Bool.and_eq_true, decide_eq_true_eq] at h
  exact ⟨h.1, h.2.1, h.2.2.1, h.2.2.2⟩
def ctB (K : PySem.W.Frag) (f : Str) (cs : List Str) : Bool := cs.all fun c => match cmOf K c with
  | some C => clsB K C && decide (PySem.W.findIn K (.ref C) f = some none)
  | none => false
theorem ctB_ok {K : PySem.W.Frag} {f : Str} {cs : List Str} (e : ctB K f cs = true) : CT K f cs := fun c hc C q => by
  have z := List.all_eq_true.mp e c hc
  rw [q] at z
  obtain ⟨z1, z2⟩ := Bool.and_eq_true_iff.mp z
  exact ⟨clsB_ok z1, show PySem.W.findIn K (.ref C) f = some none from of_decide_eq_true z2⟩
/-- isinstance of own classes -/
structure ClsI (K : PySem.W.Frag) (C : Addr) : Prop where
  cl : Cls K C
  ha : PySem.W.findIn K (.ref C) "__class__" = some (some (.builtin "object.__class__"))
  hn : PySem.W.specialIn K (.builtin "object.__class__") "__get__" = some (some (.builtin "getset_descriptor.__get__"))
  ht : PySem.W.takesIn K (.builtin "object.__class__") = some true
  hm : PySem.W.mroIn K C (.type "object") = some true
def clsIB (K : PySem.W.Frag) (C : Addr) : Bool := clsB K C && (decide (PySem.W.findIn K (.ref C) "__class__" = some (some (.builtin "object.__class__"))) &&
  (decide (PySem.W.specialIn K (.builtin "object.__class__") "__get__" = some (some (.builtin "getset_descriptor.__get__"))) && (decide (PySem.W.takesIn K (.builtin "object.__class__") = some true) && decide (PySem.W.mroIn K C (.type "object") = some true))))
def IsC (K : PySem.W.Frag) (mg : Str → Option Value) (y : Str) (l : List (Str × Bool)) : Prop := ∃ D, mg y = some (.ref D) ∧ ∀ c b C, l.lookup c = some b → cmOf K c = some C → ClsI K C ∧ PySem.W.kitOne K (.ref C) (.ref D) = some b
def isCB (K : PySem.W.Frag) (y : Str) (l : List (Str × Bool)) : Bool := match cmOf K y with
  | some D => l.all fun p => match cmOf K p.1 with
    | some C => clsIB K C && (PySem.W.kitOne K (.ref C) (.ref D) == some p.2)
    | none => false
  | none => false
/-- a method of a class -/
def MtOf (P : Program) (w : World) (K : PySem.W.Frag) (mg : Str → Option Value) (base : Heap) (c m : Str) (k : Nat) (F : List D → MH → R D) : Prop :=
  ∃ C f fd ps, cmOf K c = some C ∧ Cls K C ∧ Meth K C m f ∧ FnOk P w K mg base (L2.CX P w) k f fd ps (spM (gOf w K) F) ∧ Binds K fd ps []
def Mt (P : Program) (w : World) (K : PySem.W.Frag) (mg : Str → Option Value) (base : Heap) (m : Str) (k : Nat) (tab : MTab) : Prop := ∀ c F, tab.lookup c = some F → MtOf P w K mg base c m k F
/-- a class that is made -/
def MkOf (P : Program) (w : World) (K : PySem.W.Frag) (mg : Str → Option Value) (base : Heap) (c : Str) (k : Nat) (F : List D → MH → R D) : Prop :=
  ∃ C f fd ps, cmOf K c = some C ∧ mg c = some (.ref C) ∧ Mk K C f ∧ FnOk P w K mg base (L2.CX P w) k f fd ps (spM (gOf w K) F) ∧ Binds K fd ps []
section
variable {P : Program} {w : World} {K : PySem.W.Frag} {mg : Str → Option Value} {base : Heap} {m : Str} {k : Nat}
theorem mt_nil : Mt P w K mg base m k [] := fun _ _ h => by cases h
theorem mt_cons {c : Str} {F : List D → MH → R D} {tab : MTab} (e : MtOf P w K mg base c m k F) (r : Mt P w K mg base m k tab) : Mt P w K mg base m k ((c, F) :: tab) := fun c' F' h => by
  rw [List.lookup_cons] at h
  cases q : c' == c with
  | true =>
    rw [q] at h
    cases h
    rw [eq_of_beq q]
    exact e
  | false =>
    rw [q] at h
    exact r c' F' h
theorem MtOf.mono {c : Str} {F : List D → MH → R D} {j : Nat} (e : MtOf P w K mg base c m j F) (h : j ≤ k) : MtOf P w K mg base c m k F := by
  obtain ⟨C, f, fd, ps, h1, h2, h3, h4, h5⟩ := e
  exact ⟨C, f, fd, ps, h1, h2, h3, h4.mono h, h5⟩
theorem Mt.mono {tab : MTab} {j : Nat} (e : Mt P w K mg base m j tab) (h : j ≤ k) : Mt P w K mg base m k tab := fun c F q => (e c F q).mono h
end
section
variable {X : Cx} {W : WX} {a e o : Expr} {es : List Expr} {ma me mo : ME} {mr : MA} {p p2 pos apos : Pos} {f m : Str} {cs : List Str}
theorem se_fld (T : CT X.K f cs) (ha : PE X a (tE (gOf X.w X.K) W ma)) (hb : attributeBase a f X.env (eval a X.env) = eval a X.env := by rfl) : PE X (.Attribute a f pos) (tE (gOf X.w X.K) W (mFld cs f ma)) :=
  pe_mono (pe_fld ha hb) fun σ H Q ⟨ρ, h, μ, sr, hr, bk⟩ => step (rel := VR) (rel' := VR) (ma := ma) (Q' := Q) sr hr bk fun x d h1 H1 μ1 m1 sr1 hr1 vx bk1 => by
    split at bk1
    · rename_i i c fs e1
      obtain ⟨p, C, dx, fv, rfl, rfl, hi, q, hp, hC, kr⟩ := ins_of hr1 vx e1
      split at bk1
      · rename_i hc
        obtain ⟨c1, c2⟩ := T c hc C hC
        split at bk1
        · rename_i v ev
          rcases kr.lookup f with ⟨_, z⟩ | ⟨v', d', z1, z2, z3⟩
          · rw [ev] at z; cases z
          · rw [ev] at z2
            cases z2
            exact ⟨p, C, dx, fv, v', rfl, hp, c1, c2, z1, bk1.val hr1 z3⟩
        · exact bk1.elim
      · exact bk1.elim
    · exact bk1.elim
theorem sx_setFld (T : CT X.K f cs) (ho : PE X o (tE (gOf X.w X.K) W mo)) (he : PE X e (tE (gOf X.w X.K) W me)) (hs : swapsWith e (some (.Attribute o f p2)) pos.line X.env = pure false := by rfl) :
    PS X (.Assign [.Attribute o f p2] e pos) (tS (gOf X.w X.K) W (mSetFld cs f mo me)) :=
  ps_mono (ps_fld ho he hs) fun E σ H ⟨ρ, h, μ, sr, hr, bk⟩ =>
    stepS (rel := VR) (ma := me) (E := E) sr hr bk fun v d h1 H1 μ1 m1 sr1 hr1 vd bk1 => stepS (rel := VR) (ma := mo) (E := E) sr1 hr1 bk1 fun x a h2 H2 μ2 m2 sr2 hr2 vx bk2 => by
      have vd := vd.mono m2
      split at bk2
      · rename_i i c fs e1
        obtain ⟨p, C, dx, fv, rfl, rfl, hi, q, hp, hC, kr⟩ := ins_of hr2 vx e1
        split at bk2
        · rename_i hc
          obtain ⟨c1, c2⟩ := T c hc.1 C hC
          refine ⟨p, C, dx, fv, rfl, hp, c1, c2, by rw [kr.len]; exact hc.2, ?_⟩
          have m5 : Mon (gOf X.w X.K) H2 (upd H2 p (.ins C dx (L2.putF f v fv))) μ2 μ2 := (Saf.ins hp).mon
          exact bk2 _ _ μ2 m5 (sr2.mono m5) (hr2.write (u := .ins c (putFD f d fs)) hi q rfl (Saf.ins hp) rfl ⟨C, dx, _, upd_same, hC, (kr.putF f vd).mono m5⟩)
        · exact bk2.elim
      · exact bk2.elim
theorem run_makeS {CX : CXT} {k : Nat} {C f : Addr} {fd : FuncData} {ps : List Str} {sp : Sp} {E : XK} {pins : List (Addr × Obj)} {σ : L2.St} {H : Hp} {s : Shared} {Q : VK} {us : List Value} {vs : List V} (M : Mk X.K C f) (F : FnOk X.prog X.w X.K X.mg X.base CX k f fd ps sp)
    (hr : Room (k + 1) X.A) (hb : Binds X.K fd ps []) (hx : PassesAt CX X σ E) (I : Inv X pins σ H s) (r : Vals vs us)
    (h : ∀ x dx, H x = none → H dx = none → dx ≠ x → sp (.ref x :: vs) (upd (upd H dx (.own x)) x (.ins C dx [])) (fun v H2 => v = .non ∧ Q (.ref x) H2) E) :
    wpAny (model X.prog X.w) X.A (call (.ref C) us) (EP X pins σ Q) X.xe s := by
  have hq := h (s.heap.objs.size + 1) s.heap.objs.size (I.hok.fresh (Nat.le_succ _)) (I.hok.fresh (Nat.le_refl _)) (Nat.ne_of_lt (Nat.lt_succ_self _))
  have I2 := Inv.made (C := C) I
  have r2 : Vals (V.ref (s.heap.objs.size + 1) :: vs) (Value.ref (s.heap.objs.size + 1) :: us) := .cons rfl r
  have hl : (Value.ref (s.heap.objs.size + 1) :: us).length = ps.length := by
    have e := r2.length
    rw [F.len _ _ _ _ hq] at e
    exact e.symm
  have b := hb _ (Value.ref (s.heap.objs.size + 1) :: us) I2.kIn (by rw [List.append_nil]; exact hl)
  rw [List.append_nil] at b
  refine wpAny_call (make_map (f := f) I.kIn M.makes M.init (beq_iff_eq.mp M.fn) (codeAny_mono (F.run _ X.stack _ _ ⟨Value.ref (s.heap.objs.size + 1) :: us, []⟩ (Value.ref (s.heap.objs.size + 1) :: us) _ _ E (hr.make C us [])
    (I2.env0.make C us []) b r2 hq) fun r s' hq' => ?_))
  cases r with
  | error e => exact hx pins _ _ e s' I2 hq'
  | ok fl =>
    cases fl with
    | ret u =>
      obtain ⟨v, H', I3, rv, ev, q3⟩ := I2.after hq'
      subst ev
      exact ⟨rv, ⟨V.ref (s.heap.objs.size + 1), H', I3, rfl, q3⟩⟩
    | next => exact False.elim hq'
    | brk => exact False.elim hq'
    | cont => exact False.elim hq'
theorem new_of {g : G} {c : Str} {C : Addr} {F : List D → MH → R D} {H : Hp} {μ : List Addr} {h : MH} {vs : List V} {ds : List D} {Q : VK} {E : XK} (hC : g.cm c = some C) (hr : HR g H μ h) (vd : VRs g H μ vs ds)
    (bk : Bk (VR g) g H μ ((F (.ref h.length :: ds) (h ++ [.ins c []])).bind fun y h2 => match y with | .non => .ok (.ref h.length) h2 | _ => .bad) Q E) (x dx : Addr) (hx : H x = none) (hd : H dx = none) (ne : dx ≠ x) :
    spM g F (.ref x :: vs) (upd (upd H dx (.own x)) x (.ins C dx [])) (fun v H2 => v = .non ∧ Q (.ref x) H2) E := by
  have m1 : Mon g H (upd H dx (.own x)) μ μ := (Saf.fresh hd).mon
  have hr1 : HR g (upd H dx (.own x)) μ h := hr.laid hd
  have hx1 : (upd H dx (.own x)) x = none := by rw [upd_ne (Ne.symm ne)]; exact hx
  have m2 : Mon g (upd H dx (.own x)) (upd (upd H dx (.own x)) x (.ins C dx [])) μ (μ ++ [x]) := mon_push hx1
  have hr2 := hr1.push (u := .ins c []) hx1 (o := .ins C dx []) ⟨C, dx, [], upd_same, hC, .nil⟩
  have ix : (μ ++ [x])[h.length]? = some x := ix_push hr.len
  refine ⟨.ref h.length :: ds, h ++ [.ins c []], μ ++ [x], .cons (.ref ix) (vd.mono (m1.trans m2)), hr2, ?_⟩
  refine Bk.bind (Bk.mono (m1.trans m2) bk) fun y h3 v H3 μ3 _ m3 hr3 vy bk3 => ?_
  cases vy with
  | non => exact ⟨rfl, bk3.val hr3 (.ref (m3.ix ix))⟩
  | _ => exact bk3.elim
theorem se_new {c : Str} {k : Nat} {F : List D → MH → R D} (M : MkOf X.prog X.w X.K X.mg X.base c k F) (hr : Room (k + 1) X.A) (tk : Takes X W) (ha : PA X (e :: es) (tA (gOf X.w X.K) W mr)) (hg : Gl X c := by rfl) (hdb : (c == ("__debug__" : Str)) = false := by decide)
    (he : starEach (e :: es) X.env = (false, eval e X.env) :: starEach es X.env := by rfl) (hpl : (backTo pos (starEach es X.env)).any (·.1) = false := by rfl) : PE X (.Call (.Name c p) (e :: es) [] pos) (tE (gOf X.w X.K) W (mNew c F mr)) := by
  obtain ⟨C, f, fd, ps, hC, hm, M1, F1, b⟩ := M
  refine ⟨fun pins s σ H Q I h => ?_⟩
  refine wpAny_Call_Name_kw (ld_glob I hg hm ?_ hdb)
  obtain ⟨ρ, hh, μ, sr, hr', bk⟩ := h
  have st : tA (gOf X.w X.K) W mr σ H fun vs H1 => ∀ x dx, H1 x = none → H1 dx = none → dx ≠ x → spM (gOf X.w X.K) F (.ref x :: vs) (upd (upd H1 dx (.own x)) x (.ins C dx [])) (fun v H2 => v = .non ∧ Q (.ref x) H2) (WE W σ) :=
    step (rel := VRs) (rel' := VR) (ma := mr) (Q' := Q) sr hr' bk fun vs ds h1 H1 μ1 m1 sr1 hr1 vd bk1 => fun x dx hx hd ne => new_of hC hr1 vd bk1 x dx hx hd ne
  refine PySem.W.callWith_K (h₀ := X.base) I.ok.mod.kin M1.kp (thn (ha.run pos pins s σ H _ I st) fun us s1 ⟨vs, H1, I1, r, q⟩ => ⟨I1.kIn, ?_⟩) he hpl
  exact run_makeS M1 F1 hr b (passAt tk σ) I1 r q
theorem se_meth {k : Nat} {tab : MTab} {pl : Sem Bool} (M : Mt X.prog X.w X.K X.mg X.base m k tab) (hr : Room k X.A) (tk : Takes X W) (ho : PE X o (tE (gOf X.w X.K) W mo)) (ha : PA X (e :: es) (tA (gOf X.w X.K) W mr))
    (hst : starEach (e :: es) X.env = (false, eval e X.env) :: starEach es X.env := by rfl) (hpl : (backTo pos (starEach es X.env)).any (·.1) = false := by rfl)
    (ht : eval (.Call (.Attribute o m apos) (e :: es) [] pos) X.env = (do
      let ov ← eval o X.env
      standAt apos.atName
      let (f, first) ← holding [ov] (getMethod ov m pl)
      callWith pos f first (backTo pos (starEach (e :: es) X.env)) (backToKw pos (keywordEach [] X.env))) := by rfl) :
    PE X (.Call (.Attribute o m apos) (e :: es) [] pos) (tE (gOf X.w X.K) W (mMethI m tab mo mr)) := by
  refine ⟨fun pins s σ H Q I ⟨ρ, h, μ, sr, hr', bk⟩ => ?_⟩
  have st : tE (gOf X.w X.K) W mo σ H fun x H1 => ∃ a C dx fv f fd ps F, x = .ref a ∧ H1 a = some (.ins C dx fv) ∧ Cls X.K C ∧ Meth X.K C m f ∧ FnOk X.prog X.w X.K X.mg X.base (L2.CX X.prog X.w) k f fd ps (spM (gOf X.w X.K) F) ∧ Binds X.K fd ps [] ∧ fv.lookup m = none ∧
      tA (gOf X.w X.K) W mr σ H1 fun vs H2 => spM (gOf X.w X.K) F (.ref a :: vs) H2 Q (WE W σ) :=
    step (rel := VR) (rel' := VR) (ma := mo) (Q' := Q) sr hr' bk fun x d h1 H1 μ1 m1 sr1 hr1 vx bk1 => by
      split at bk1
      · rename_i i c fs e1
        obtain ⟨a, C, dx, fv, rfl, rfl, hi, q, hp, hC, kr⟩ := ins_of hr1 vx e1
        split at bk1
        · rename_i F eF
          obtain ⟨C', f, fd, ps, hC', h2, h3, h4, h5⟩ := M c F eF
          have hC'' : cmOf X.K c = some C := hC
          rw [hC''] at hC'
          cases hC'
          split at bk1
          · rename_i hl
            refine ⟨a, C, dx, fv, f, fd, ps, F, rfl, hp, h2, h3, h4, h5, ?_, ?_⟩
            · rcases kr.lookup m with ⟨z, _⟩ | ⟨_, _, _, z, _⟩
              · exact z
              · rw [hl] at z; cases z
            · exact step (rel := VRs) (rel' := VR) (ma := mr) (Q' := Q) sr1 hr1 bk1 fun vs ds h2 H2 μ2 m2 sr2 hr2 vd bk2 => ⟨_, h2, μ2, .cons (.ref (m2.ix hi)) vd, hr2, bk2⟩
          · exact bk1.elim
        · exact bk1.elim
      · exact bk1.elim
  refine PySem.W.methodCall_KW (pl := pl) (thn (ho.run pins s σ H _ I st) fun u s1 ⟨x, H1, I1, rx, a, C, dx, fv, f, fd, ps, F, ex, ea, c, hm, F1, b, l, q⟩ => ?_) ht
  subst ex
  obtain rfl : u = Value.ref a := rx
  refine getmeth_ok I1 ea c hm l ?_
  refine PySem.W.callWith_K (first := [.ref a]) (h₀ := X.base) I.ok.mod.kin hm.kp (thn (ha.run pos pins s1 σ H1 _ I1 q) fun us s2 ⟨vs, H2, I2, r, q2⟩ => ⟨I2.kIn, ?_⟩) hst hpl
  exact run_fnS (E := WE W) (us := .ref a :: us) (vs := .ref a :: vs) F1 hr b (passAt tk σ) I2 (.cons rfl r) q2
end
end Mi

/-! Defs of classes by their texts; defs with defaults. -/
namespace Mi
open PySem L2 PySem.Spec PyProof.Rows
/-- a method as it stands -/
def Dm (K : PySem.W.Frag) (c m qual : Str) (st : Stmt) (ps : List Str) : Prop := ∃ C f fd, cmOf K c = some C ∧ Cls K C ∧ Meth K C m f ∧ Fun K m qual st f fd ∧ Binds K fd ps []
/-- an __init__ as it stands -/
def Di (K : PySem.W.Frag) (mg : Str → Option Value) (c qual : Str) (st : Stmt) (ps : List Str) : Prop := ∃ C f fd, cmOf K c = some C ∧ mg c = some (.ref C) ∧ Mk K C f ∧ Fun K "__init__" qual st f fd ∧ Binds K fd ps []
section
variable {P : Program} {w : World} {K : PySem.W.Frag} {mg : Str → Option Value} {base : Heap} {h : Heap}
theorem dm_mk {c m qual : Str} {st : Stmt} {ps : List Str} {C f : Addr} {oc : Value} {od an : Option Addr} {osl : Array (Option Value)} {kV doc pm cdv ct : Value}
    (a : PySem.W.nsIn K mainGlobals c = some (some (.ref C))) (hc : clsB K C = true) (hf : PySem.W.findIn K (.ref C) m = some (some (.ref f))) (hn : PySem.W.isFn K (.ref f) = true)
    (l : K.lookup f = some ⟨oc, od, .func (PySem.W.fnOf m qual (defArgs st) (defBody st) (defScope st) .none kV doc pm an cdv ct), osl⟩)
    (e : PySem.W.codeIn K cdv qual = true) (k : PySem.W.keepIn K (.ref f) = true)
    (hb : ∀ (kV doc pm : Value) (an : Option Addr) (cdv ct : Value) (us : List Value), us.length = ps.length → bindArgs (PySem.W.fnOf m qual (defArgs st) (defBody st) (defScope st) .none kV doc pm an cdv ct) ⟨us, []⟩ = pure (ps.zip us)) : Dm K c m qual st ps := by
  have F := fun_mk (st := st) l e k
  exact ⟨C, f, _, by unfold cmOf; rw [a], clsB_ok hc, ⟨hf, hn, k⟩, F, F.binds hb⟩
theorem di_mk {c qual : Str} {st : Stmt} {ps : List Str} {C f : Addr} {oc : Value} {od an : Option Addr} {osl : Array (Option Value)} {kV doc pm cdv ct : Value} (X : K.In h) (G : h.Ns mainGlobals mg)
    (a : PySem.W.nsIn K mainGlobals c = some (some (.ref C))) (hm : PySem.W.makesIn K C = true) (hf : PySem.W.findIn K (.ref C) "__init__" = some (some (.ref f))) (hn : PySem.W.isFn K (.ref f) = true) (hk : PySem.W.keepIn K (.ref C) = true)
    (l : K.lookup f = some ⟨oc, od, .func (PySem.W.fnOf "__init__" qual (defArgs st) (defBody st) (defScope st) .none kV doc pm an cdv ct), osl⟩)
    (e : PySem.W.codeIn K cdv qual = true) (k : PySem.W.keepIn K (.ref f) = true)
    (hb : ∀ (kV doc pm : Value) (an : Option Addr) (cdv ct : Value) (us : List Value), us.length = ps.length → bindArgs (PySem.W.fnOf "__init__" qual (defArgs st) (defBody st) (defScope st) .none kV doc pm an cdv ct) ⟨us, []⟩ = pure (ps.zip us)) : Di K mg c qual st ps := by
  have F := fun_mk (st := st) l e k
  exact ⟨C, f, _, by unfold cmOf; rw [a], PySem.W.mg_of X G a, ⟨hm, hf, hn, hk⟩, F, F.binds hb⟩
theorem mtof_mk {c m qual : Str} {st : Stmt} {N ps : List Str} {k : Nat} {body : MS} (d : Dm K c m qual st ps) (S : FnScope N ps (defScope st))
    (hb : ∀ (f : Addr) (cdv : Value) (A : Around) (outer : List Env) (s : Shared) (H : Hp) (E : XK), Room k (A.deeper (PyProof.Rows.envOfC qual (defScope st) s.heap.objs.size f cdv)) →
      PSs (cxOf (L2.CX P w) P w K mg base N qual (defScope st) f cdv A outer s H E) (defBody st) (tS (gOf w K) (fun c d _ H' => E c d H') body)) : MtOf P w K mg base c m (k + 1) (mFun ps.length N.length body) := by
  obtain ⟨C, f, fd, h1, h2, h3, F, b⟩ := d
  exact ⟨C, f, fd, ps, h1, h2, h3, fn_mk F S (hb f), b⟩
theorem mkof_mk {c qual : Str} {st : Stmt} {N ps : List Str} {k : Nat} {body : MS} (d : Di K mg c qual st ps) (S : FnScope N ps (defScope st))
    (hb : ∀ (f : Addr) (cdv : Value) (A : Around) (outer : List Env) (s : Shared) (H : Hp) (E : XK), Room k (A.deeper (PyProof.Rows.envOfC qual (defScope st) s.heap.objs.size f cdv)) →
      PSs (cxOf (L2.CX P w) P w K mg base N qual (defScope st) f cdv A outer s H E) (defBody st) (tS (gOf w K) (fun c d _ H' => E c d H') body)) : MkOf P w K mg base c (k + 1) (mFun ps.length N.length body) := by
  obtain ⟨C, f, fd, h1, h2, h3, F, b⟩ := d
  exact ⟨C, f, fd, ps, h1, h2, h3, fn_mk F S (hb f), b⟩
theorem MkOf.mono {c : Str} {F : List D → MH → R D} {j k : Nat} (e : MkOf P w K mg base c j F) (h : j ≤ k) : MkOf P w K mg base c k F := by
  obtain ⟨C, f, fd, ps, h1, h2, h3, h4, h5⟩ := e
  exact ⟨C, f, fd, ps, h1, h2, h3, h4.mono h, h5⟩
end
section
variable {P : Program} {w : World} {K : PySem.W.Frag} {mg : Str → Option Value} {base : Heap}
end
/-! ### defaults -/
def vOf : D → V
  | .non => .non | .bl b => .bl b | .int i => .int i | .str x => .str x | _ => .non
def DfD (K : PySem.W.Frag) (mg : Str → Option Value) (x : Str) (st : Stmt) (ps : List Str) (ds : List D) : Prop := ∃ f fd, FunD K x x (defArgs st) (defBody st) (defScope st) (ds.map vOf) [] f fd ∧ mg x = some (.ref f) ∧ ∀ j, j ≤ ds.length → ∃ uds, Vals ((ds.map vOf).drop j) uds ∧ Binds K fd ps uds
def CalD (P : Program) (w : World) (K : PySem.W.Frag) (mg : Str → Option Value) (base : Heap) (x : Str) (k : Nat) (F : List D → MH → R D) (ds : List D) : Prop :=
  ∃ f fd ps, FnOk P w K mg base (L2.CX P w) k f fd ps (spM (gOf w K) F) ∧ mg x = some (.ref f) ∧ PySem.W.keepIn K (.ref f) = true ∧ ∀ j, j ≤ ds.length → ∃ uds, Vals ((ds.map vOf).drop j) uds ∧ Binds K fd ps uds
def mCallD (F : List D → MH → R D) (ds : List D) (r : MA) : ME := fun ρ h => (r ρ h).bind fun xs h1 => F (xs ++ ds) h1
section
variable {P : Program} {w : World} {K : PySem.W.Frag} {mg : Str → Option Value} {base : Heap}
end
section
variable {X : Cx} {W : WX} {e : Expr} {es : List Expr} {mr : MA} {p pos : Pos}
end
end Mi

/-! The calculus for classes, dicts, defaults; cells of one's own of any kind. -/
namespace Mi
open PySem L2
/-! ### cells of any kind -/
abbrev CL := List (Nat × MO)
structure Cel (h0 h : MH) (L : CL) : Prop where
  pre : h0 <+: h
  cell : ∀ p ∈ L, h0.length ≤ p.1 ∧ h[p.1]? = some p.2
  nd : (L.map (·.1)).Nodup
section
variable {h0 h h' h1 : MH} {L M : CL} {i : Nat} {l l' : MO}
theorem Cel.nil (h : MH) : Cel h h [] := ⟨List.prefix_rfl, fun p hp => by simp at hp, List.nodup_nil⟩
theorem Cel.ext (o : Cel h0 h L) (p : h <+: h') : Cel h0 h' L := ⟨o.pre.trans p, fun q hq => ⟨(o.cell q hq).1, pre_get p (o.cell q hq).2⟩, o.nd⟩
theorem Cel.lt (o : Cel h0 h L) {p : Nat × MO} (hp : p ∈ L) : p.1 < h.length := (List.getElem?_eq_some_iff.mp (o.cell p hp).2).1
theorem Cel.add (o : Cel h0 h L) (hi : h0.length ≤ i) (e : h[i]? = some l) (n : ∀ p ∈ L, p.1 ≠ i) : Cel h0 h ((i, l) :: L) :=
  ⟨o.pre, fun q hq => by
    rcases List.mem_cons.mp hq with rfl | hq
    · exact ⟨hi, e⟩
    · exact o.cell q hq, List.nodup_cons.mpr ⟨fun hm => by
      obtain ⟨p, hp, rfl⟩ := List.mem_map.mp hm
      exact n p hp rfl, o.nd⟩⟩
theorem Cel.alloc (o : Cel h0 h L) (x : MO) : Cel h0 (h ++ [x]) ((h.length, x) :: L) :=
  (o.ext (List.prefix_append _ _)).add (o.pre.length_le) (by simp) fun p hp => Nat.ne_of_lt (o.lt hp)
theorem Cel.at (o : Cel h0 h L) (n : Nat) (e : L[n]? = some (i, l)) : h[i]? = some l := (o.cell _ (List.mem_of_getElem? e)).2
theorem Cel.atL {l : List D} (o : Cel h0 h L) (n : Nat) (e : L[n]? = some (i, .lst l)) : getL h i = some l := getL_of (o.at n e)
theorem Cel.isL {l : List D} (o : Cel h0 h L) (n : Nat) (e : L[n]? = some (i, .lst l)) : isListD (.ref i) h = true := by rw [isListD_ref, o.atL n e]; rfl
theorem Cel.setAt (o : Cel h0 h L) (n : Nat) (e : L[n]? = some (i, l)) (l' : MO) : Cel h0 (h.set i l') (L.set n (i, l')) := by
  have hn : n < L.length := (List.getElem?_eq_some_iff.mp e).1
  have en : L[n] = (i, l) := (List.getElem?_eq_some_iff.mp e).2
  have hi : i < h.length := o.lt (List.mem_of_getElem? e)
  have h0i : h0.length ≤ i := (o.cell _ (List.mem_of_getElem? e)).1
  have em : (L.set n (i, l')).map (·.1) = L.map (·.1) := by
    rw [List.map_set]
    refine List.ext_getElem (by simp) fun k h1 h2 => ?_
    rw [List.getElem_set]
    split
    · rename_i q
      subst q
      rw [List.getElem_map, en]
    · rfl
  refine ⟨?_, fun q hq => ?_, by rw [em]; exact o.nd⟩
  · obtain ⟨t, rfl⟩ := o.pre
    rw [List.set_append_right _ _ h0i]
    exact List.prefix_append _ _
  · obtain ⟨k, hk, e2⟩ := List.mem_iff_getElem.mp hq
    rw [List.getElem_set] at e2
    split at e2
    · subst e2
      exact ⟨h0i, by simp [hi]⟩
    · rename_i hne
      have hk' : k < L.length := by simpa using hk
      have hm : q ∈ L := e2 ▸ List.getElem_mem hk'
      refine ⟨(o.cell q hm).1, ?_⟩
      rw [List.getElem?_set_ne]
      · exact (o.cell q hm).2
      · intro z
        have h1 : (L.map (·.1))[n]'(by simpa using hn) = (L.map (·.1))[k]'(by simpa using hk') := by
          rw [List.getElem_map, List.getElem_map, en, e2]
          exact z
        exact hne ((List.getElem_inj o.nd).mp h1)
theorem Cel.trans (o : Cel h0 h L) (o' : Cel h h' M) : Cel h0 h' (M ++ L) := by
  have o2 := o.ext o'.pre
  refine ⟨o2.pre, fun q hq => ?_, ?_⟩
  · rcases List.mem_append.mp hq with hq | hq
    · exact ⟨Nat.le_trans o.pre.length_le (o'.cell q hq).1, (o'.cell q hq).2⟩
    · exact o2.cell q hq
  · rw [List.map_append, List.nodup_append]
    refine ⟨o'.nd, o.nd, fun a ha b hb => ?_⟩
    obtain ⟨p, hp, rfl⟩ := List.mem_map.mp ha
    obtain ⟨q, hq, rfl⟩ := List.mem_map.mp hb
    have h1 := (o'.cell p hp).1
    have h2 := o.lt hq
    omega
theorem Cel.sub (o : Cel h0 h L) (s : M.Sublist L) : Cel h0 h M := ⟨o.pre, fun p hp => o.cell p (s.subset hp), (s.map _).nodup o.nd⟩
theorem Cel.tail {p : Nat × MO} (o : Cel h0 h (p :: L)) : Cel h0 h L := o.sub (List.sublist_cons_self _ _)
theorem Cel.none (o : Cel h0 h L) : Cel h0 h [] := o.sub (List.nil_sublist _)
/-! ### rules -/
variable {Q : D → MH → Prop} {E : XE} {a b o : ME} {r : MA} {ρ : Slots} {N : SP} {T : D → MH → Prop} {B C : SP} {X : SX}
theorem c_new {xs : List D} (o : Cel h0 h L) (l : xs.length ≤ 1000000) (q : ∀ i h', Cel h0 h' ((i, .lst xs) :: L) → Q (.ref i) h') : Sat (toLst xs h) Q E := w_toLst l (q _ _ (o.alloc _))
theorem c_app {d : D} {l : List D} (o : Cel h0 h L) (n : Nat) (e : L[n]? = some (i, .lst l)) (c : l.length < 1000000) (q : ∀ h', Cel h0 h' (L.set n (i, .lst (l ++ [d]))) → Q .non h') : Sat (dAppend (.ref i) [d] h) Q E := w_app (o.at n e) c (q _ (o.setAt n e _))
theorem c_dict0 (o : Cel h0 h L) (q : ∀ i h', Cel h0 h' ((i, .dK []) :: L) → Q (.ref i) h') : Sat (mDict0 ρ h) Q E := w_dict0 (q _ _ (o.alloc _))
def fldK (cs : List Str) (f : Str) (x : D) (h1 : MH) : R D := match insOf h1 x with
  | some (_, c, fs) => if c ∈ cs then match fs.lookup f with
    | some v => .ok v h1
    | none => .bad else .bad
  | none => .bad
theorem w_fld {cs : List Str} {f : Str} (q : Sat (a ρ h) (fun x h1 => Sat (fldK cs f x h1) Q E) E) : Sat (mFld cs f a ρ h) Q E := Sat.bnd q
theorem insOf_of {c : Str} {fs : List (Str × D)} (e : h[i]? = some (.ins c fs)) : insOf h (.ref i) = some (i, c, fs) := by simp only [insOf, e]
theorem w_fldK {cs : List Str} {f c : Str} {fs : List (Str × D)} {v : D} (e : h[i]? = some (.ins c fs)) (hc : c ∈ cs) (hf : fs.lookup f = some v) (q : Q v h) : Sat (fldK cs f (.ref i) h) Q E := w_eq (by unfold fldK; rw [insOf_of e]; simp only [hc, if_true, hf]) q
def setFldK (cs : List Str) (f : Str) (d x : D) (ρ : Slots) (h2 : MH) : Out := match insOf h2 x with
  | some (i, c, fs) => if c ∈ cs ∧ fs.length < 1000 then .nx ρ (h2.set i (.ins c (putFD f d fs))) else .bad
  | none => .bad
theorem w_setFld {cs : List Str} {f : Str} (q : Sat (b ρ h) (fun d h1 => Sat (a ρ h1) (fun x h2 => OS (setFldK cs f d x ρ h2) N T B C X) fun x fs h => X x fs ρ h) fun x fs h => X x fs ρ h) : OS (mSetFld cs f a b ρ h) N T B C X :=
  Sat.ot (q.monoE (fun _ _ z => Sat.ot z) fun _ _ _ z => z)
theorem w_setFldK {cs : List Str} {f c : Str} {fs : List (Str × D)} {d : D} (e : h[i]? = some (.ins c fs)) (hc : c ∈ cs) (hl : fs.length < 1000) (q : N ρ (h.set i (.ins c (putFD f d fs)))) : OS (setFldK cs f d (.ref i) ρ h) N T B C X := by
  unfold setFldK
  rw [insOf_of e]
  simp only
  rw [if_pos ⟨hc, hl⟩]
  exact w_nx q
theorem w_new {c : Str} {F : List D → MH → R D} (q : Sat (r ρ h) (fun xs h1 => Sat (F (.ref h1.length :: xs) (h1 ++ [.ins c []])) (fun y h2 => y = .non ∧ Q (.ref h1.length) h2) E) E) : Sat (mNew c F r ρ h) Q E :=
  Sat.bnd (q.monoE (fun xs h1 z => Sat.bnd (z.monoE (fun y h2 z => by obtain ⟨rfl, z⟩ := z; exact w_ok z) fun _ _ _ z => z)) fun _ _ _ z => z)
def methK (m : Str) (tab : MTab) (r : MA) (ρ : Slots) (x : D) (h1 : MH) : R D := match insOf h1 x with
  | some (_, c, fs) => match tab.lookup c with
    | some F => if fs.lookup m = none then (r ρ h1).bind fun xs h2 => F (x :: xs) h2 else .bad
    | none => .bad
  | none => .bad
theorem w_methI {m : Str} {tab : MTab} (q : Sat (a ρ h) (fun x h1 => Sat (methK m tab r ρ x h1) Q E) E) : Sat (mMethI m tab a r ρ h) Q E := Sat.bnd q
theorem w_methK {m c : Str} {tab : MTab} {fs : List (Str × D)} {F : List D → MH → R D} (e : h[i]? = some (.ins c fs)) (hF : tab.lookup c = some F) (hl : fs.lookup m = none) (q : Sat (r ρ h) (fun xs h2 => Sat (F (.ref i :: xs) h2) Q E) E) : Sat (methK m tab r ρ (.ref i) h) Q E := by
  unfold methK
  rw [insOf_of e]
  simp only [hF]
  rw [if_pos hl]
  exact Sat.bnd q
def isCK (tab : List (Str × Bool)) (x : D) (h1 : MH) : R D := match insOf h1 x with
  | some (_, c, _) => match tab.lookup c with
    | some b => .ok (.bl b) h1
    | none => .bad
  | none => .bad
theorem w_isC {tab : List (Str × Bool)} (q : Sat (a ρ h) (fun x h1 => Sat (isCK tab x h1) Q E) E) : Sat (mIsC tab a ρ h) Q E := Sat.bnd q
theorem w_isCK {tab : List (Str × Bool)} {c : Str} {fs : List (Str × D)} {k : Bool} (e : h[i]? = some (.ins c fs)) (hk : tab.lookup c = some k) (q : Q (.bl k) h) : Sat (isCK tab (.ref i) h) Q E := w_eq (by unfold isCK; rw [insOf_of e]; simp only [hk]) q
theorem w_callD {F : List D → MH → R D} {ds : List D} (q : Sat (r ρ h) (fun xs h1 => Sat (F (xs ++ ds) h1) Q E) E) : Sat (mCallD F ds r ρ h) Q E := Sat.bnd q
theorem getK_ref {l : List (Key × D)} (e : h[i]? = some (.dK l)) : getK h (.ref i) = some l := by simp only [getK, e]
theorem w_dNotIn {l : List (Key × D)} {x : D} {k : Key} (hx : keyD x = some k) (e : h[i]? = some (.dK l)) (q : Q (.bl (!(valD l k).isSome)) h) : Sat (dDNotIn x (.ref i) h) Q E := w_eq (by unfold dDNotIn; rw [hx, getK_ref e]) q
theorem w_dIx {l : List (Key × D)} {x v : D} {k : Key} (hx : keyD x = some k) (e : h[i]? = some (.dK l)) (hv : valD l k = some v) (q : Q v h) : Sat (dDIx (.ref i) x h) Q E := w_eq (by unfold dDIx; rw [hx, getK_ref e]; simp only [hv]) q
theorem w_mDSet (q : Sat (b ρ h) (fun d h1 => Sat (a ρ h1) (fun x h2 => Sat (o ρ h2) (fun y h3 => Sat (dDSet x y d h3) (fun _ h4 => N ρ h4) fun x fs h => X x fs ρ h) fun x fs h => X x fs ρ h) fun x fs h => X x fs ρ h) fun x fs h => X x fs ρ h) : OS (mDSet a o b ρ h) N T B C X :=
  Sat.ot (q.monoE (fun _ _ z => Sat.ot (z.monoE (fun _ _ z => Sat.ot (z.monoE (fun _ _ z => Sat.ot (z.monoE (fun _ _ z => w_nx z) fun _ _ _ z => z)) fun _ _ _ z => z)) fun _ _ _ z => z)) fun _ _ _ z => z)
theorem w_dSet {QU : Unit → MH → Prop} {l : List (Key × D)} {x d : D} {k : Key} (hx : keyD x = some k) (e : h[i]? = some (.dK l)) (c : l.length < 1000000) (q : QU () (h.set i (.dK (putKD l k d)))) : Sat (dDSet (.ref i) x d h) QU E := w_eq (by unfold dDSet; rw [hx, getK_ref e]; simp only [c, if_true]) q
theorem c_dSet {QU : Unit → MH → Prop} {l : List (Key × D)} {x d : D} {k : Key} (hx : keyD x = some k) (o : Cel h0 h L) (n : Nat) (e : L[n]? = some (i, .dK l)) (c : l.length < 1000000) (q : ∀ h', Cel h0 h' (L.set n (i, .dK (putKD l k d))) → QU () h') : Sat (dDSet (.ref i) x d h) QU E :=
  w_dSet hx (o.at n e) c (q _ (o.setAt n e _))
theorem mkA {x : Str} {k : List D → MH → R D} {l : MTab} : List.lookup x ((x, k) :: l) = some k := by simp [List.lookup]
theorem mkB {x y : Str} {b : List D → MH → R D} {l : MTab} {r : Option (List D → MH → R D)} (h : (x == y) = false) (q : List.lookup x l = r) : List.lookup x ((y, b) :: l) = r := by rw [List.lookup_cons, h]; exact q
theorem fkA {x : Str} {k : D} {l : List (Str × D)} : List.lookup x ((x, k) :: l) = some k := by simp [List.lookup]
theorem fkB {x y : Str} {b : D} {l : List (Str × D)} {r : Option D} (h : (x == y) = false) (q : List.lookup x l = r) : List.lookup x ((y, b) :: l) = r := by rw [List.lookup_cons, h]; exact q
theorem fkN {x : Str} : List.lookup x ([] : List (Str × D)) = none := rfl
theorem nN_non (h : MH) : dNotN .non .non h = .ok (.bl false) h := by rw [dNotN_ev]; rfl
theorem nN_int (i : Int) (h : MH) : dNotN (.int i) .non h = .ok (.bl true) h := by rw [dNotN_ev]; rfl
theorem nN_tup (l : List D) (h : MH) : dNotN (.tup l) .non h = .ok (.bl true) h := by rw [dNotN_ev]; rfl
theorem iN_tup (l : List D) (h : MH) : dIsN (.tup l) .non h = .ok (.bl false) h := by rw [dIsN_ev]; rfl
theorem iN_non (h : MH) : dIsN .non .non h = .ok (.bl true) h := by rw [dIsN_ev]; rfl
theorem iN_int (i : Int) (h : MH) : dIsN (.int i) .non h = .ok (.bl false) h := by rw [dIsN_ev]; rfl
theorem nN_ref (i : Nat) (h : MH) : dNotN (.ref i) .non h = .ok (.bl true) h := by unfold dNotN; simp
theorem iN_ref (i : Nat) (h : MH) : dIsN (.ref i) .non h = .ok (.bl false) h := by unfold dIsN; simp
end
end Mi

/-! sorted(d) of a dict whose keys are texts; list.clear. -/
namespace Mi
open PySem L2 PySem.Spec PyProof.Rows
/-- what isn't there isn't tracked -/
theorem hok_none {P : Program} {w : World} {H : Hp} {h : Heap} {a : Addr} (ok : HOk P w H h) (e : h.get? a = none) : H a = none := by
  have go : ∀ o, ObjOk P w H h a o → False := by
    intro o
    induction o with
    | lst xs => rintro ⟨_, _, _, _, q⟩; rw [e] at q; cases q
    | tup xs => rintro ⟨_, _, _, o, q, _⟩; rw [e] at q; cases q
    | dK kvs => rintro ⟨_, _, _, _, o, _, _, q, _⟩; rw [e] at q; cases q
    | dT kvs => rintro ⟨_, _, _, _, o, _, _, q, _⟩; rw [e] at q; cases q
    | set S n => rintro ⟨o, _, _, _, q, _⟩; rw [e] at q; cases q
    | ins C dx fs => rintro ⟨_, _, _, q, _⟩; rw [e] at q; cases q
    | own y => rintro ⟨_, q⟩; rw [e] at q; cases q
    | xd fs => rintro ⟨_, ⟨_, _, _, q, _⟩, _⟩; rw [e] at q; cases q
    | rng lo hi => rintro ⟨_, _, _, q⟩; rw [e] at q; cases q
    | frz ob u ih => rintro ⟨q, _⟩; rw [e] at q; cases q
    | tbl ps => intro q; rw [show h.get? a = some _ from q] at e; cases e
    | met f y => intro q; rw [show h.get? a = some _ from q] at e; cases e
    | ext φ => rintro ⟨_, ⟨_, q⟩, _⟩; rw [e] at q; cases q
  cases q : H a with
  | none => rfl
  | some o => exact (go o (ok a o q)).elim
theorem vals_each : ∀ {vs : List Value} {ys : List Str}, PySem.W.EachIs (fun v y => ∃ t, v = Value.str y t) vs ys → Vals (ys.map V.str) vs
  | _, _, .nil => .nil
  | _, _, .cons h t => .cons h (vals_each t)
theorem ltC_iff : ∀ l m : List Nat, ltC l m = true ↔ l < m
  | [], [] => by simp [ltC, PySem.Spec.ltCps]
  | [], y :: m => by simp [ltC, PySem.Spec.ltCps]
  | x :: l, [] => by simp [ltC, PySem.Spec.ltCps]
  | x :: l, y :: m => by
    have ih := ltC_iff l m
    simp only [ltC, PySem.Spec.ltCps] at ih ⊢
    rw [List.cons_lt_cons_iff]
    simp [ih]
theorem le_data (a b : Str) : PySem.W.dataLe false PyData.str a b = leS a b := by
  show (!PySem.W.dataLt (.str b) (.str a)) = leS a b
  rw [PySem.W.dataLt_str]
  unfold leS
  congr 1
  rw [Bool.eq_iff_iff, decide_eq_true_iff]
  exact (ltC_iff _ _).symm
theorem sort_data (ys : List Str) : ys.mergeSort (PySem.W.dataLe false PyData.str) = sortS ys := by
  have : PySem.W.dataLe false PyData.str = leS := by funext a b; exact le_data a b
  rw [this]
  rfl
def rSortK : List V → Hp → VK → Prop := fun xs H Q => ∃ (a : Addr) (kvs : List (Key × V)) (ys : List Str), xs = [V.ref a] ∧ H a = some (.dK kvs) ∧ kvs.map (·.1) = ys.map Sum.inr ∧ ∀ p, H p = none → Q (.ref p) (upd H p (.lst ((sortS ys).map V.str)))
/-- the keys, all of them texts -/
def strKeys : List (Key × D) → Option (List Str)
  | [] => some []
  | (.inr x, _) :: l => (strKeys l).map (x :: ·)
  | (.inl _, _) :: _ => none
def dSortK : List D → MH → R D
  | [x], h => match getK h x with
    | some l => match strKeys l with
      | some ys => .ok (.ref h.length) (h ++ [.lst ((sortS ys).map .str)])
      | none => .bad
    | none => .bad
  | _, _ => .bad
def dClear : D → List D → MH → R D
  | .ref i, [], h => match h[i]? with
    | some (.lst _) => .ok .non (h.set i (.lst []))
    | _ => .bad
  | _, _, _ => .bad
/-! the calculus -/
end Mi

/-! list.pop(0), list.insert. -/
namespace Mi
open PySem L2 PySem.Spec PyProof.Rows
def dPop0 : D → List D → MH → R D
  | .ref i, [.int 0], h => match h[i]? with
    | some (.lst (d :: l)) => .ok d (h.set i (.lst l))
    | _ => .bad
  | _, _, _ => .bad
/-- list.insert -/
def insD (l : List D) (k : Nat) (d : D) : List D := l.take k ++ d :: l.drop k
end Mi

/-! int(text). -/
namespace Mi
open PySem L2
def dIntS : List D → MH → R D
  | [.str x], h => match PySem.intText? x with
    | some n => if x.length ≤ 640 then .ok (.int n) h else .bad
    | none => .bad
  | _, _ => .bad
section
variable {g : G} {X : Cx}
end
end Mi

/-! Sets of ints and texts: set(xs) of a list, sorted of it, its length. -/
namespace Mi
open PySem L2 PySem.Spec PyProof.Rows
/-! ### what was met, each once -/
instance memK (k : Key) (L : List Key) : Decidable (k ∈ L) := decidable_of_iff ((L.any fun j => decide (j = k)) = true) (by
  rw [List.any_eq_true]
  exact ⟨fun ⟨x, h1, h2⟩ => of_decide_eq_true h2 ▸ h1, fun h => ⟨k, h, decide_eq_true rfl⟩⟩)
def onceK (l : List Key) : List Key := l.foldl (fun L k => if k ∈ L then L else L ++ [k]) []
theorem onceK_snoc (l : List Key) (k : Key) : onceK (l ++ [k]) = if k ∈ onceK l then onceK l else onceK l ++ [k] := by
  unfold onceK
  rw [List.foldl_append]
  rfl
theorem onceK_le : ∀ n (l : List Key), l.length = n → (onceK l).length ≤ n := by
  intro n
  induction n with
  | zero =>
    intro l e
    cases l with
    | nil => exact Nat.le_refl _
    | cons a b => simp at e
  | succ n ih =>
    intro l e
    rcases List.eq_nil_or_concat l with rfl | ⟨r, k, rfl⟩
    · simp at e
    · rw [List.concat_eq_append] at e ⊢
      simp at e
      rw [onceK_snoc]
      have := ih r e
      split
      · omega
      · simp; omega
theorem onceK_mem (k : Key) : ∀ n (l : List Key), l.length = n → (k ∈ onceK l ↔ k ∈ l) := by
  intro n
  induction n with
  | zero =>
    intro l e
    cases l with
    | nil => exact Iff.rfl
    | cons a b => simp at e
  | succ n ih =>
    intro l e
    rcases List.eq_nil_or_concat l with rfl | ⟨r, j, rfl⟩
    · simp at e
    · rw [List.concat_eq_append] at e ⊢
      simp at e
      rw [onceK_snoc]
      have i := ih r e
      by_cases c : j ∈ onceK r
      · rw [if_pos c, List.mem_append, List.mem_singleton, i]
        refine ⟨.inl, fun h => h.elim id fun q => ?_⟩
        subst q
        exact (ih r e).mp c
      · rw [if_neg c, List.mem_append, List.mem_append, i]
/-! ### the set in the heap -/
def kyOf (e : Int × Value) : Key := match e.2 with
  | .int k _ => .inl k
  | .str x _ => .inr x
  | _ => .inl 0
def GdE (w : World) (e : Int × Value) : Prop := ∃ k, keyIs k e.2 = true ∧ e.1 = keyH w k
theorem ky_is {k : Key} {v : Value} (h : keyIs k v = true) (i : Int) : kyOf (i, v) = k := by
  rcases keyIs_shape h with ⟨j, t, rfl, rfl⟩ | ⟨x, t, rfl, rfl⟩ <;> rfl
theorem gd_is {w : World} {e : Int × Value} (g : GdE w e) (k : Key) : keyIs k e.2 = true ↔ kyOf e = k := by
  obtain ⟨j, h1, _⟩ := g
  have e1 : kyOf e = j := ky_is h1 e.1
  constructor
  · intro h2
    exact ky_is h2 e.1
  · intro h2
    rw [← h2, e1]
    exact h1
structure SetX (w : World) (h : Heap) (a : Addr) (L : List Key) (o : Obj) (es : Array (Int × Value)) (ep : Nat) (t : SetTable) : Prop where
  ob : h.get? a = some o
  ex : o.ExactSet
  da : o.data = .set es ep t
  gd : ∀ e ∈ es.toList, GdE w e
  pm : (es.toList.map kyOf).Perm L
  nd : L.Nodup
  sz : L.length < scanBound
  ft : t.fits es.size = true
  rs : Ris t.place.toList
  ld : w.params.followText "set-order" = true ∨ t.led = true
def SetL (w : World) (h : Heap) (a : Addr) (L : List Key) : Prop := ∃ o es ep t, SetX w h a L o es ep t
section
variable {P : Program} {w : World} {A : Around} {E : Value → Shared → Prop} {s : Shared} {a : Addr} {L : List Key}
theorem SetX.el {h : Heap} {o : Obj} {es : Array (Int × Value)} {ep : Nat} {t : SetTable} (R : SetX w h a L o es ep t) : ElemsOf (mixKind P w) es.toList := fun e he => by
  obtain ⟨k, h1, h2⟩ := R.gd e he
  refine ⟨⟨k, h1, h2⟩, ?_⟩
  rcases keyIs_shape h1 with ⟨j, t, rfl, q⟩ | ⟨x, t, rfl, q⟩ <;> rw [q] <;> rfl
theorem SetX.len {h : Heap} {o : Obj} {es : Array (Int × Value)} {ep : Nat} {t : SetTable} (R : SetX w h a L o es ep t) : es.size = L.length := by
  rw [← R.pm.length_eq, List.length_map, Array.length_toList]
theorem SetL.keep {h h' : Heap} (R : SetL w h a L) (k : ∀ o, h.get? a = some o → h'.get? a = some o) : SetL w h' a L := by
  obtain ⟨o, es, ep, t, r⟩ := R
  exact ⟨o, es, ep, t, { r with ob := k o r.ob }⟩
theorem set_tail {g : Bool → Sem Unit} (hg : ∀ (b : Bool) (s1 : Shared) (Q' : Unit → Shared → Prop), Q' () s1 → wpAny (model P w) A (g b) Q' E s1) {o : Obj} {es es1 : Array (Int × Value)} {ep : Nat} {t t2 : SetTable}
    (ho : s.heap.get? a = some o) (hx : o.ExactSet) (hd : o.data = .set es ep t) (g1 : ∀ e ∈ es1.toList, GdE w e) (p1 : (es1.toList.map kyOf).Perm L) (nd : L.Nodup) (sz : L.length < scanBound) (hf : t2.fits es1.size = true)
    (hr : Ris t2.place.toList) (hl : w.params.followText "set-order" = true ∨ t2.led = true) {wd : Bool} {R : Option Bool → Shared → Prop} (q : ∀ h', Heap.SameBut a s.heap h' → SetL w h' a L → R (some true) { s with heap := h' }) :
    wpAny (model P w) A (do
        storeSet a es1 t2
        if (!wd && t2.tooFull) = true then do
            g (relayAll t2 es1 (SetTable.grown es1.size)).2.2
            storeSet a (relayAll t2 es1 (SetTable.grown es1.size)).1 (relayAll t2 es1 (SetTable.grown es1.size)).2.1
            pure (some true)
          else pure (some true)) R E s := by
  have z1 : es1.size < scanBound := by rw [← Array.length_toList, ← List.length_map (f := kyOf), p1.length_eq]; exact sz
  have u1 := store_at (es' := es1) (t' := t2) ho hd
  have b1 := Heap.SameBut.update s.heap a (Obj.putSet es1 t2)
  apply wpAny_bind
  apply wpAny_storeSet_of ho hd _ (fits_of_scanBound z1)
  split
  · have pm := relayAll_perm t2 es1 (SetTable.grown es1.size)
    have f3 := relayAll_fits t2 es1 (SetTable.grown es1.size)
    have r3 := relayAll_ris t2 es1 (SetTable.grown es1.size)
    have l3 := relayAll_led t2 es1 (SetTable.grown es1.size)
    revert pm f3 r3 l3
    cases relayAll t2 es1 (SetTable.grown es1.size) with
    | mk es2 rest =>
      cases rest with
      | mk t3 gave =>
        intro pm f3 r3 l3
        have z2 : es2.size < scanBound := by rw [← Array.length_toList, pm.length_eq]; exact z1
        apply wpAny_bind
        apply hg
        apply wpAny_bind
        apply wpAny_storeSet_of u1 rfl _ (fits_of_scanBound z2)
        apply wpAny_pure
        apply q _ (b1.trans (Heap.SameBut.update _ a _))
        exact ⟨_, es2, _, t3, store_at (es' := es2) (t' := t3) u1 rfl, hx, rfl, fun e he => g1 e (pm.mem_iff.mp he), (pm.map kyOf).trans p1, nd, sz, f3, r3, hl.imp id fun y => l3.trans y⟩
  · apply wpAny_pure
    exact q _ b1 ⟨_, es1, _, t2, u1, hx, rfl, g1, p1, nd, sz, hf, hr, hl⟩
theorem set_put {k : Key} {v : Value} {Q : Bool → Shared → Prop} (hk : keyIs k v = true) (R : SetL w s.heap a L) (room : L.length + 1 < scanBound)
    (q : ∀ h' b, Heap.SameBut a s.heap h' → SetL w h' a (if k ∈ L then L else L ++ [k]) → Q b { s with heap := h' }) : wpAny (model P w) A (setAddHashed a v (keyH w k)) Q E s := by
  obtain ⟨o, es, ep, t, X⟩ := R
  have el := X.el (P := P)
  have sc : v.scannable = true := by rcases keyIs_shape hk with ⟨j, t, rfl, rfl⟩ | ⟨x, t, rfl, rfl⟩ <;> rfl
  have zb : es.size < scanBound := by rw [X.len]; exact X.sz
  have mem : k ∈ L ↔ ∃ e ∈ es.toList, keyIs k e.2 = true := by
    rw [← X.pm.mem_iff, List.mem_map]
    exact ⟨fun ⟨e, he, c⟩ => ⟨e, he, (gd_is (X.gd e he) k).mpr c⟩, fun ⟨e, he, c⟩ => ⟨e, he, (gd_is (X.gd e he) k).mp c⟩⟩
  unfold setAddHashed setAddHashedIn
  apply wpAny_holding
  apply wpAny_bind
  apply wpAny_setState_of X.ob X.da X.ft
  dsimp only
  rw [byScan_of (knd := mixKind P w) sc zb el]
  simp only [↓reduceIte]
  unfold setAddByScan
  apply wpAny_bind
  apply wpAny_bind
  apply wpAny_rule
  apply wpAny_bind
  apply wpAny_setScan_of (knd := mixKind P w) (k := k) hk X.ob X.da X.ft el
  show wpAny _ _ _ _ _ _
  cases hi : List.findIdx? (fun e => (mixKind P w).is k e.2) es.toList with
  | some j =>
    obtain ⟨hj, pj, _⟩ := List.findIdx?_eq_some_iff_getElem.mp hi
    have kL : k ∈ L := mem.mpr ⟨es.toList[j], List.getElem_mem hj, pj⟩
    have q1 := q s.heap false (Heap.SameBut.refl a s.heap)
    rw [if_pos kL] at q1
    exact wpAny_pure (wpAny_pure (q1 ⟨o, es, ep, t, X⟩))
  | none =>
    have kL : k ∉ L := fun c => by
      obtain ⟨e, he, y⟩ := mem.mp c
      have y2 := List.findIdx?_eq_none_iff.mp hi e he
      have y3 : (mixKind P w).is k e.2 = true := y
      rw [y3] at y2
      cases y2
    have gw : ∀ (b : Bool) {s1 : Shared} {Q' : Unit → Shared → Prop}, Q' () s1 → wpAny (model P w) A (match b with | true => rule "set.scan.the-table-gave-way" | false => pure ()) Q' E s1 := fun b _ _ y => by
      cases b
      · exact wpAny_pure y
      · exact wpAny_rule y
    dsimp only
    have pm := layNew_perm t es (keyH w k) v
    have f1 := layNew_fits t es (keyH w k) v
    have r1 := layNew_ris t es (keyH w k) v X.rs
    have l1 := layNew_led t es (keyH w k) v
    show wpAny _ _ _ _ _ _
    have eh : (mixKind P w).hash k = keyH w k := rfl
    revert pm f1 r1 l1
    generalize layNew t es (keyH w k) v = Z
    intro pm f1 r1 l1
    obtain ⟨es1, t1, wd, gave⟩ := Z
    dsimp only at pm f1 r1 l1 ⊢
    rw [Array.toList_push] at pm
    have pc := pm.trans (List.perm_append_singleton (keyH w k, v) es.toList)
    have g1 : ∀ e ∈ es1.toList, GdE w e := fun e he => by
      rcases List.mem_cons.mp (pc.mem_iff.mp he) with y | y
      · rw [y]; exact ⟨k, hk, rfl⟩
      · exact X.gd e y
    have p1 : (es1.toList.map kyOf).Perm (L ++ [k]) := by
      have y := pc.map kyOf
      rw [List.map_cons, ky_is hk] at y
      exact (y.trans (X.pm.cons k)).trans (List.perm_append_singleton k L).symm
    have nd1 : (L ++ [k]).Nodup := by
      rw [List.nodup_append]
      refine ⟨X.nd, by simp, fun x hx y hy => ?_⟩
      rw [List.mem_singleton] at hy
      subst hy
      exact fun c => kL (c ▸ hx)
    have z1 : (L ++ [k]).length < scanBound := by simpa using room
    have ld1 : w.params.followText "set-order" = true ∨ t1.led = true := X.ld.imp id fun y => l1.trans y
    have fin : ∀ h', Heap.SameBut a s.heap h' → SetL w h' a (L ++ [k]) → Q true { s with heap := h' } := fun h' sb r => q h' true sb (by rw [if_neg kL]; exact r)
    apply wpAny_bind
    apply gw
    split
    · apply wpAny_bind
      rw [hashByValue_scannable 8 sc]
      apply wpAny_pure
      refine set_tail ?_ X.ob X.ex X.da g1 p1 nd1 z1 ?_ ?_ ?_ ?_
      · intro b s1 Q' y
        cases b
        · exact wpAny_pure y
        · exact wpAny_rule y
      · first | exact SetTable.fits_plain_off f1 | exact f1 | (split <;> first | exact f1 | exact SetTable.fits_plain_off f1)
      · first | exact r1 | (split <;> exact r1)
      · first | exact ld1 | (split <;> exact ld1)
      · intro h' sb r
        exact wpAny_pure (fin h' sb r)
    · apply wpAny_bind
      apply wpAny_pure
      simp only [↓reduceIte]
      refine set_tail ?_ X.ob X.ex X.da g1 p1 nd1 z1 f1 r1 ld1 ?_
      · intro b s1 Q' y
        cases b
        · exact wpAny_pure y
        · exact wpAny_rule y
      · intro h' sb r
        exact wpAny_pure (fin h' sb r)
end
/-! ### set(xs) -/
section
variable {prog : Program} {w : World} {A : Around} {R : Result → Shared → Prop} {I : Addr} {fp wr : List Addr} {G : Array GenState → Array GenState → Prop} {n : Nat} {Pv : Nat → Value → Prop} {St : Nat → Shared → Prop}
theorem set_loop (W : WalksS prog w A.in1 I fp wr G n Pv St) (S : Addr) (hSf : S ∉ fp) (ks : List Key) (hn : n = ks.length) (hv : ∀ i v, Pv i v → ∃ k, ks[i]? = some k ∧ keyIs k v = true) (hb : ks.length + 1 < scanBound) :
    ∀ (m i : Nat) (s : Shared), n - i = m → i ≤ n → St i s → SetL w s.heap S (onceK (ks.take i)) → (∀ s', Moved (S :: wr) G s s' → SetL w s'.heap S (onceK ks) → R (.ok (.ret .none)) s') →
      codeAny (model prog w) A (.builtin "set.update.loop" ⟨[.ref S, .ref I], []⟩) R s := by
  have hw : S ∉ wr := fun c => hSf (W.sub _ c)
  have sub : ∀ b ∈ wr, b ∈ S :: wr := fun b c => List.mem_cons_of_mem _ c
  intro m
  induction m with
  | zero =>
    intro i s hm hi st hS q
    obtain rfl : i = n := by omega
    apply codeAny_builtin PyProof.Rows.F.entry_set_update_loop
    rw [Around.under_plainId PyProof.Rows.F.plain_set_update_loop _]
    show wpAny _ A.in1 (pyNext (.ref I) >>= _) _ _ s
    apply wpAny_bind
    apply W.done s _ _ st
    intro s' mv
    show wpAny _ A.in1 (ret Value.none) _ _ s'
    apply wpAny_pure
    apply q s' (mv.mono sub)
    rw [hn, List.take_length] at hS
    exact hS.keep fun o e => mv.heap S o hw e
  | succ m ih =>
    intro i s hm hi st hS q
    apply codeAny_builtin PyProof.Rows.F.entry_set_update_loop
    rw [Around.under_plainId PyProof.Rows.F.plain_set_update_loop _]
    show wpAny _ A.in1 (pyNext (.ref I) >>= _) _ _ s
    apply wpAny_bind
    apply W.item i s _ _ (by omega) st
    intro v s' pv st' mv
    obtain ⟨k, hk, kv⟩ := hv i v pv
    have hS' := hS.keep (h' := s'.heap) fun o e => mv.heap S o hw e
    have lt : i < ks.length := by omega
    have hl : (onceK (ks.take i)).length ≤ i := by
      have := onceK_le _ (ks.take i) rfl
      rw [List.length_take] at this
      omega
    have et : onceK (ks.take (i + 1)) = if k ∈ onceK (ks.take i) then onceK (ks.take i) else onceK (ks.take i) ++ [k] := by
      rw [List.take_succ, hk]
      exact onceK_snoc _ _
    show wpAny _ A.in1 (holding [v] (setAdd S v) >>= _) _ _ s'
    apply wpAny_bind
    apply wpAny_holding
    unfold setAdd
    apply wpAny_holding
    apply wpAny_bind
    apply (mixKind prog w).pyHash (k := k) kv
    apply set_put (s := { s' with toks := s'.toks + 1 }) kv hS' (by omega)
    intro h' b sb hS2
    rw [← et] at hS2
    apply wpAny_pure
    refine ⟨plainId_quiet PyProof.Rows.F.plain_set_update_loop _, ih (i + 1) _ (by omega) (by omega) (W.frame _ s' _ _ st' (Nat.le_succ _) fun c hc o e => ?_) hS2 fun s2 mv2 hS3 => ?_⟩
    · rw [sb.2 c (fun y : c = S => hSf (y ▸ hc))]; exact e
    · apply q s2 (Moved.trans W.gtrans ((mv.mono sub).then_heap (Nat.le_succ _) fun c o hc e => ?_) mv2) hS3
      rw [sb.2 c (fun y : c = S => hc (by rw [y]; exact List.mem_cons_self))]; exact e
end
def emptyS (w : World) : Obj := { cls := .type "set", dict := none, data := .set #[] 0 (.fresh 0 0 (!w.params.followText "set-order")) }
theorem set_empty {w : World} {h : Heap} {a : Addr} (e : h.get? a = some (emptyS w)) : SetL w h a [] := ⟨emptyS w, #[], 0, .fresh 0 0 (!w.params.followText "set-order"), {
  ob := e
  ex := ⟨rfl, rfl, rfl⟩
  da := rfl
  gd := fun e he => by simp at he
  pm := List.Perm.refl _
  nd := List.nodup_nil
  sz := by decide
  ft := rfl
  rs := List.Pairwise.nil
  ld := by
    show _ ∨ (!w.params.followText "set-order") = true
    cases w.params.followText "set-order"
    · exact .inr rfl
    · exact .inl rfl }⟩
section
variable {P : Program} {w : World} {A : Around} {E : Value → Shared → Prop} {s : Shared}
set_option maxHeartbeats 3200000 in
theorem call_setX {l : Addr} {its : Array Value} (ks : List Key) {Q : Value → Shared → Prop} (hh : A.handled = none) (hl : s.heap.IsList l its) (hz : its.size = ks.length) (hv : ∀ (i : Nat) (v : Value), its[i]? = some v → ∃ k, ks[i]? = some k ∧ keyIs k v = true) (hb : ks.length + 1 < scanBound)
    (q : ∀ (h' : Heap) (tk : Nat), SetL w h' s.heap.objs.size (onceK ks) → (∀ b o, s.heap.get? b = some o → h'.get? b = some o) → Q (.ref s.heap.objs.size) { s with heap := h', toks := tk }) :
    wpAny (model P w) A (call (.type "set") [.ref l]) Q E s := by
  obtain ⟨cc, tt, hmro⟩ := F.called_set.mro
  have hmade := F.called_set.made
  have hsub := F.called_set.sub
  apply wpAny_call
  apply codeAny_of_tree
  show wpAny _ _ (callAny (.type "set") _) _ _ _
  apply wpAny_pure
  refine ⟨Code.quiet_builtin _ (by decide +kernel), codeAny_builtin F.entry_type_call ?_⟩
  rw [Around.under_plain (weight_type_call_type "set" [.ref l] []) rfl]
  have t1 := F.called_set.notType
  have t2 := F.called_set.canCreate
  have t3 := F.typeCall_set_1 (.ref l)
  repeat (any_goals (first | assumption | wp_step))
  apply codeAny_mono (code_set_led1 (.ref l) (E := E) (Q₁ := fun ob s1 => ob = .ref s.heap.objs.size ∧ s1 = { s with heap := s.heap.push (emptyS w) }) ⟨rfl, rfl⟩)
  intro r s1 hr
  cases r with
  | error e => exact hr
  | ok fl =>
    cases fl with
    | ret ob =>
      obtain ⟨rfl, rfl⟩ := hr
      have hS : (s.heap.push (emptyS w)).get? s.heap.objs.size = some (emptyS w) := Heap.get?_push_size _ rfl
      have hT : Shared.TypeIs { s with heap := s.heap.push (emptyS w) } (.ref s.heap.objs.size) "set" := ⟨_, hS, rfl⟩
      have i1 := F.called_set.init.lookup
      have i2 := F.called_set.init.bind (.ref s.heap.objs.size)
      repeat (any_goals (first | assumption | wp_step))
      refine codeAny_mono (codeAny_call_builtin (R := wants (fun r s2 => r = .none ∧ ∃ h' tk, s2 = { s with heap := h', toks := tk } ∧ SetL w h' s.heap.objs.size (onceK ks) ∧ ∀ b o, s.heap.get? b = some o → h'.get? b = some o) E) F.called_set.init.plain F.entry_set_init (check_set_init_1 hT ?_)) fun r2 s2 hr2 => ?_
      · obtain ⟨ol, hol, hcl, nl, hdl⟩ := hl
        obtain ⟨oc, od, oda, osl⟩ := ol
        simp only at hcl hdl
        subst hcl
        subst hdl
        have lat : (s.heap.push (emptyS w)).get? l = some { cls := .type "list", dict := od, data := .seq its nl, slots := osl } := Heap.get?_push_of_some _ hol
        have y1 := F.sub_list_set
        have y2 := F.sub_list_frozenset
        have y3 : (Value.type "list" == Value.type "dict") = false := by decide
        have isl : (s.heap.push (emptyS w)).IsList l its := ⟨_, lat, rfl, nl, rfl⟩
        have ls := Heap.lt_size hol
        have sz1 : (s.heap.push (emptyS w)).objs.size = s.heap.objs.size + 1 := Heap.size_push ..
        unfold Builtin.«set.__init__» noKeywords Builtin.Frozenset.updateFrom
        generalize hPI : pyIter = PI
        wp_walk
        subst hPI
        apply wpAny_pyIter_list isl
        apply wpAny_bind
        apply wpAny_runValue
        have nI : l ≠ (s.heap.push (emptyS w)).objs.size := Nat.ne_of_lt (by rw [sz1]; exact Nat.lt_succ_of_lt ls)
        have nS : s.heap.objs.size ∉ [(s.heap.push (emptyS w)).objs.size, l] := by
          simp only [List.mem_cons, List.not_mem_nil, or_false, not_or]
          exact ⟨Nat.ne_of_lt (by rw [sz1]; exact Nat.lt_succ_self _), Nat.ne_of_gt ls⟩
        refine set_loop ((Walks.list (by simp [hh]) _ l nI its).toS) s.heap.objs.size nS ks hz hv hb (its.size - 0) 0 _ (by omega) (Nat.zero_le _) ⟨⟨_, Heap.get?_push_size _ rfl, rfl, rfl⟩, isl.push _⟩ (set_empty (Heap.get?_push_of_some _ hS)) ?_
        intro s' mv hS'
        obtain ⟨h', g', d', tk', os'⟩ := s'
        have eg : g' = s.gens := mv.gens
        have ed : d' = s.drawn := mv.drawn
        have eo : os' = s.os := mv.os
        subst eg
        subst ed
        subst eo
        show wpAny _ _ _ _ _ _
        apply wpAny_pure
        show wpAny _ _ (ret Value.none) _ _ _
        apply wpAny_pure
        refine ⟨rfl, h', tk', rfl, hS', fun b o e => ?_⟩
        have lb := Heap.lt_size e
        apply mv.heap b o
        · simp only [List.mem_cons, List.not_mem_nil, or_false, not_or]
          exact ⟨Nat.ne_of_lt lb, Nat.ne_of_lt (by rw [sz1]; exact Nat.lt_succ_of_lt lb)⟩
        · exact Heap.get?_push_of_some _ (Heap.get?_push_of_some _ e)
      · cases r2 with
        | error e => exact hr2
        | ok fl2 =>
          cases fl2 with
          | ret r =>
            obtain ⟨rfl, h', tk, rfl, hS', hk⟩ := hr2
            repeat (any_goals (first | assumption | wp_step))
            exact q _ _ hS' hk
          | _ => exact hr2.elim
    | _ => exact hr.elim
end
/-! ### the mirror -/
def keysD : List D → Option (List Key)
  | [] => some []
  | d :: l => match keyD d, keysD l with
    | some k, some r => some (k :: r)
    | _, _ => none
def mLenSet (a : ME) : ME := fun ρ h => (a ρ h).bind fun x h1 => match x with
  | .ref i => match (getL h1 i).bind keysD with
    | some ks => if ks.length < 4000 then .ok (.int (onceK ks).length) h1 else .bad
    | none => .bad
  | _ => .bad
def mSortSet (a : ME) : ME := fun ρ h => (a ρ h).bind fun x h1 => match x with
  | .ref i => match (getL h1 i).bind allStr with
    | some ys => if ys.length < 4000 then .ok (.ref h1.length) (h1 ++ [.lst ((sortS (ys.eraseDups)).map .str)]) else .bad
    | none => .bad
  | _ => .bad
section
variable {g : G} {H : Hp} {μ : List Addr}
theorem key_rel {k : Key} {v : Value} (r : RelV (kV k) v) : keyIs k v = true := by
  cases k with
  | inl i => obtain ⟨t, rfl⟩ := r; exact keyIs_int i t
  | inr x => obtain ⟨t, rfl⟩ := r; exact keyIs_str x t
theorem keys_each : ∀ {ks : List Key} {its : List Value}, Vals (ks.map kV) its → its.length = ks.length ∧ ∀ (i : Nat) (v : Value), its[i]? = some v → ∃ k, ks[i]? = some k ∧ keyIs k v = true
  | [], its, h => by
    cases h
    exact ⟨rfl, fun i v e => by simp at e⟩
  | k :: ks, its, h => by
    cases h with
    | cons a b =>
      obtain ⟨h1, h2⟩ := keys_each b
      refine ⟨by simp [h1], fun i v e => ?_⟩
      cases i with
      | zero =>
        simp at e
        subst e
        exact ⟨k, rfl, key_rel a⟩
      | succ i => exact h2 i v (by simpa using e)
end
theorem onceK_strs : ∀ n (ys : List Str), ys.length = n → ∃ zs : List Str, onceK (ys.map Sum.inr) = zs.map Sum.inr := by
  intro n
  induction n with
  | zero =>
    intro l e
    cases l with
    | nil => exact ⟨[], rfl⟩
    | cons a b => simp at e
  | succ n ih =>
    intro l e
    rcases List.eq_nil_or_concat l with rfl | ⟨r, k, rfl⟩
    · simp at e
    · rw [List.concat_eq_append] at e ⊢
      simp at e
      obtain ⟨zs, ez⟩ := ih r e
      rw [List.map_append, List.map_cons, List.map_nil, onceK_snoc, ez]
      split
      · exact ⟨zs, rfl⟩
      · exact ⟨zs ++ [k], by simp⟩
theorem nodup_unmap {α β : Type} {f : α → β} : ∀ {l : List α}, (l.map f).Nodup → l.Nodup
  | [], _ => List.nodup_nil
  | a :: l, h => by
    rw [List.map_cons, List.nodup_cons] at h
    rw [List.nodup_cons]
    exact ⟨fun c => h.1 (List.mem_map.mpr ⟨a, c, rfl⟩), nodup_unmap h.2⟩
theorem eraseDups_nodup {α : Type} [BEq α] [LawfulBEq α] : ∀ n (l : List α), l.length ≤ n → l.eraseDups.Nodup
  | 0, l, h => by
    cases l with
    | nil => simp
    | cons a b => simp at h
  | n + 1, l, h => by
    cases l with
    | nil => simp
    | cons a b =>
      rw [List.eraseDups_cons, List.nodup_cons]
      refine ⟨fun c => ?_, eraseDups_nodup n _ (by have := List.length_filter_le (fun x => !x == a) b; simp at h; omega)⟩
      rw [List.mem_eraseDups, List.mem_filter] at c
      simp at c
theorem perm_of {l m : List Str} (h1 : l.Nodup) (h2 : m.Nodup) (e : ∀ x, x ∈ l ↔ x ∈ m) : l.Perm m := (List.perm_ext_iff_of_nodup h1 h2).mpr e
section
variable {X : Cx} {g : G} {W : WX} {ma : ME} {a : Expr} {p p2 q pos : Pos}
theorem pe_sortSetK (hc : X.calm = true) (hu : X.A.units + 65 < cLine) (ha : PE X a (tE (gOf X.w X.K) W ma)) (hm : X.mg "sorted" = none) (hm2 : X.mg "set" = none) (hg : Gl X "sorted" := by rfl) (hg2 : Gl X "set" := by rfl)
    (na : starEach [a] X.env = (false, eval a X.env) :: starEach [] X.env := by rfl) : PE X (.Call (.Name "sorted" p) [.Call (.Name "set" p2) [a] [] q] [] pos) (tE (gOf X.w X.K) W (mSortSet ma)) := by
  refine ⟨fun pins s σ H Q I h => ?_⟩
  obtain ⟨ρ, hh, μ, sr, hr, bk⟩ := h
  have st : tE (gOf X.w X.K) W ma σ H fun x H1 => ∃ (l : Addr) (ys : List Str), x = V.ref l ∧ SqL X.K H1 l ((ys.map Sum.inr).map kV) ∧ ys.length < 4000 ∧ ∀ p, H1 p = none → Q (.ref p) (upd H1 p (.lst ((sortS ys.eraseDups).map V.str))) :=
    step (rel := VR) (rel' := VR) (ma := ma) (Q' := Q) sr hr bk fun x d h1 H1 μ1 m1 sr1 hr1 vx bk1 => by
      split at bk1
      · rename_i i
        split at bk1
        · rename_i ys e
          rw [Option.bind_eq_some_iff] at e
          obtain ⟨ds, e1, e2⟩ := e
          split at bk1
          · rename_i hz
            cases vx with
            | ref hi =>
              obtain ⟨xs, h2, h3⟩ := hr1.list hi e1
              refine ⟨_, ys, rfl, ?_, hz, fun p h4 => bk1.newL hr1 (vrs_strs _) h4⟩
              rw [strs_of h3 e2] at h2
              rw [List.map_map]
              exact h2
          · exact bk1.elim
        · exact bk1.elim
      · exact bk1.elim
  refine Call_ (ld_blt I hg hm PyProof.Rows.boot_sorted ?_)
  refine PyProof.Rows.callWith_builtin1 (PyProof.Rows.args_cons ?_ rfl) rfl rfl
  refine Call_ (ld_blt I hg2 hm2 PyProof.Rows.boot_set ?_)
  refine PyProof.Rows.callWith_type1 (PyProof.Rows.args_cons (thn (ha.run pins s σ H _ I st) fun v s1 ⟨x, H1, I1, r1, q1⟩ => PyProof.Rows.args_nil ?_) na) na rfl
  obtain ⟨l, ys, rfl, hq, hz, q1⟩ := q1
  cases r1
  obtain ⟨its, rv, pl, _⟩ := I1.list hq
  obtain ⟨el, ev⟩ := keys_each rv
  apply call_setX (P := X.prog) (w := X.w) (ys.map Sum.inr) (I1.ok.hd hc) pl.isList (by rw [List.size_toArray]; exact el) (fun i v e => ev i v (by rw [List.getElem?_toArray] at e; exact e)) (by rw [List.length_map]; unfold scanBound; omega)
  intro h' tk hS hk
  apply PyProof.Rows.args_nil
  obtain ⟨o, es, ep, t, R⟩ := hS
  have I2 : Inv X pins σ H1 { s1 with heap := h', toks := tk } := I1.kept fun b o e => hk b o e
  have hl := onceK_le _ (ys.map Sum.inr) rfl
  rw [List.length_map] at hl
  obtain ⟨zs, ez⟩ := onceK_strs _ ys rfl
  apply Calls.call_function_entry kind_sorted plain_sorted entry_sorted (args_sorted1 _)
  unfold Builtin.«sorted»
  apply wpAny_bind (m := checkCount "sorted" 1 1 _)
  apply wpAny_pure
  apply wpAny_bind
  apply collect_set (A := X.A.in1) (I1.ok.hd hc) ⟨o, R.ob, R.ex.1, R.da⟩ R.ft (by rw [R.len]; unfold scanBound; omega) R.rs R.ld
  intro s3 vs k3 z3 g3 o3 pm
  have hb : ∃ bs : List Str, PySem.W.EachIs (fun v y => ∃ t, v = Value.str y t) vs bs ∧ bs.Perm zs := by
    have e1 : ∀ v ∈ vs, ∃ y t, v = Value.str y t := fun v hv => by
      obtain ⟨e, he, rfl⟩ := List.mem_map.mp (pm.mem_iff.mp hv)
      have e2 : kyOf e ∈ onceK (ys.map Sum.inr) := R.pm.mem_iff.mp (List.mem_map.mpr ⟨e, he, rfl⟩)
      rw [ez, List.mem_map] at e2
      obtain ⟨y, _, e3⟩ := e2
      have e4 := (gd_is (R.gd e he) (kyOf e)).mpr rfl
      rw [← e3] at e4
      rcases keyIs_shape e4 with ⟨j, t, c, _⟩ | ⟨x, t, _, c⟩
      · cases c
      · exact ⟨x, t, c⟩
    have e5 : ∀ ws : List Value, (∀ v ∈ ws, ∃ y t, v = Value.str y t) → ∃ bs : List Str, PySem.W.EachIs (fun v y => ∃ t, v = Value.str y t) ws bs ∧ bs.map Sum.inr = ws.map fun v => kyOf (0, v) := by
      intro ws
      induction ws with
      | nil => intro _; exact ⟨[], .nil, rfl⟩
      | cons v ws ih =>
        intro e
        obtain ⟨y, t, rfl⟩ := e v List.mem_cons_self
        obtain ⟨bs, h1, h2⟩ := ih fun u hu => e u (List.mem_cons_of_mem _ hu)
        exact ⟨y :: bs, .cons ⟨t, rfl⟩ h1, by rw [List.map_cons, List.map_cons, h2]; rfl⟩
    obtain ⟨bs, h1, h2⟩ := e5 vs e1
    refine ⟨bs, h1, ?_⟩
    have h3 : (bs.map Sum.inr : List Key).Perm (zs.map Sum.inr) := by
      rw [h2, ← ez]
      refine (pm.map fun v => kyOf (0, v)).trans ?_
      rw [List.map_map]
      exact R.pm
    have nz : (zs.map Sum.inr : List Key).Nodup := by rw [← ez]; exact R.nd
    refine perm_of (nodup_unmap (h3.nodup_iff.mpr nz)) (nodup_unmap nz) fun x => ?_
    have h4 := h3.mem_iff (a := Sum.inr x)
    simpa using h4
  obtain ⟨bs, hE, hP⟩ := hb
  have bl : vs.length = bs.length := by
    clear hP pm
    induction hE with
    | nil => rfl
    | cons _ _ ih => simp [ih]
  have bz : bs.length ≤ 4000 := by
    have := congrArg List.length ez
    simp at this
    rw [hP.length_eq]
    omega
  have hlim : bs.length ≤ sizeLine := Nat.le_trans bz (by decide)
  have eb : bs.mergeSort (PySem.W.dataLe false PyData.str) = sortS ys.eraseDups := by
    rw [sort_data]
    have : (sortS bs).Perm (ys.eraseDups) := by
      refine (List.mergeSort_perm bs leS).trans (hP.trans ?_)
      have nz : zs.Nodup := nodup_unmap (f := (Sum.inr : Str → Key)) (by rw [← ez]; exact R.nd)
      refine perm_of nz (eraseDups_nodup _ ys (Nat.le_refl _)) fun x => ?_
      rw [List.mem_eraseDups]
      have h4 := onceK_mem (Sum.inr x) _ (ys.map Sum.inr) rfl
      rw [ez] at h4
      simpa using h4
    exact List.Perm.eq_of_pairwise (le := fun a b => leS a b = true) (fun a b _ _ h1 h2 => leS_asym a b h1 h2) (List.pairwise_mergeSort leS_trans leS_total bs) (List.pairwise_mergeSort leS_trans leS_total _) (this.trans (List.mergeSort_perm _ leS).symm)
  apply wpAny_bind
  apply wpAny_newList
  · have p0 : s1.heap.get? s3.heap.objs.size = none := by
      cases e : s1.heap.get? s3.heap.objs.size with
      | none => rfl
      | some o => exact absurd (Heap.lt_size (k3 _ _ (hk _ _ e))) (Nat.lt_irrefl _)
    have pH := hok_none I1.hok p0
    have at' : (s3.heap.push { cls := .type "list", data := .seq vs.toArray }).get? s3.heap.objs.size = some (seqObj "list" vs.toArray 0) := Heap.get?_push_size _ rfl
    refine wpAny_bind (wpAny_holding ?_)
    refine PySem.W.list_sort_data (s := { s3 with heap := s3.heap.push { cls := .type "list", data := .seq vs.toArray } }) (enc := PyData.str) (R := fun v y => ∃ t, v = Value.str y t) (bs := bs) at' hE
      (hE.mono fun v y ⟨t, e⟩ => ⟨[], by rw [e]; exact .str _ _, by simp⟩) (PySem.W.AllAlike.of fun _ _ => rfl) (PySem.W.Sortable.others fun _ => ⟨nofun, nofun⟩) hlim (fun y _ => ?_) fun out ho hR => ?_
    · show X.A.in1.units + 1 + 0 < cLine
      have : X.A.in1.units ≤ X.A.units + 1 := by first | exact Nat.le_refl _ | decide | simp [Around.in1]
      omega
    · rw [eb] at hR
      obtain ⟨e2, he2⟩ := sortedHeap_at (vs := vs) (out := out.toArray) at'
      have es3 : s3 = { s1 with heap := s3.heap, drawn := s3.drawn, toks := s3.toks } := by
        cases s3
        cases s1
        cases g3
        cases o3
        rfl
      refine wpAny_pure ⟨_, rfl, .ref s3.heap.objs.size, upd H1 s3.heap.objs.size (.lst ((sortS ys.eraseDups).map V.str)), ?_, rfl, q1 _ pH⟩
      have kk : ∀ b u, s1.heap.get? b = some u → (sortedHeap (s3.heap.push { cls := .type "list", data := .seq vs.toArray }) s3.heap.objs.size vs out.toArray).get? b = some u := fun b u e => by
        have hb := k3 b u (hk b u e)
        rw [sortedHeap_old (Nat.ne_of_lt (Heap.lt_size hb)) (by rw [Heap.size_push]; exact Nat.lt_succ_of_lt (Heap.lt_size hb))]
        exact Heap.get?_push_of_some _ hb
      have hlen : ((sortS ys.eraseDups).map V.str).length ≤ sizeLine := by
        rw [List.length_map, ← eb, (List.mergeSort_perm bs _).length_eq]
        exact hlim
      have J : Inv X pins σ (upd H1 s3.heap.objs.size (.lst ((sortS ys.eraseDups).map V.str))) { s1 with heap := sortedHeap (s3.heap.push { cls := .type "list", data := .seq vs.toArray }) s3.heap.objs.size vs out.toArray, gens := s1.gens, drawn := s3.drawn, toks := s3.toks } :=
        I1.call (ch := []) (Un.laidN kk p0 pH) (I1.hok.laidN kk pH ⟨hlen, out, e2, vals_each hR, he2⟩) I1.bare (fun _ z => nomatch z)
      rw [es3]
      exact J
  · rw [bl]; exact hlim
end
/-! ### as calls -/
def dLenSet : List D → MH → R D
  | [x], h1 => match x with
    | .ref i => match (getL h1 i).bind keysD with
      | some ks => if ks.length < 4000 then .ok (.int (onceK ks).length) h1 else .bad
      | none => .bad
    | _ => .bad
  | _, _ => .bad
def dSortSet : List D → MH → R D
  | [x], h1 => match x with
    | .ref i => match (getL h1 i).bind allStr with
      | some ys => if ys.length < 4000 then .ok (.ref h1.length) (h1 ++ [.lst ((sortS (ys.eraseDups)).map .str)]) else .bad
      | none => .bad
    | _ => .bad
  | _, _ => .bad
theorem sortSet_call (ma : ME) : mCall dSortSet (mCons ma mNil) = mSortSet ma := by
  funext ρ h
  show ((ma ρ h).bind fun x h1 => R.ok [x] h1).bind (fun xs h1 => dSortSet xs h1) = (ma ρ h).bind _
  cases ma ρ h <;> rfl
section
variable {X : Cx} {g : G} {W : WX} {ma : ME} {a : Expr} {p p2 q pos : Pos}
theorem se_sortSet (hc : X.calm = true) (hu : X.A.units + 65 < cLine) (ha : PE X a (tE (gOf X.w X.K) W ma)) (hm : X.mg "sorted" = none) (hm2 : X.mg "set" = none) (hg : Gl X "sorted" := by rfl) (hg2 : Gl X "set" := by rfl)
    (na : starEach [a] X.env = (false, eval a X.env) :: starEach [] X.env := by rfl) : PE X (.Call (.Name "sorted" p) [.Call (.Name "set" p2) [a] [] q] [] pos) (tE (gOf X.w X.K) W (mCall dSortSet (mCons ma mNil))) := by
  rw [sortSet_call]
  exact pe_sortSetK hc hu ha hm hm2 hg hg2 na
end
theorem w_sortSet {h : MH} {i : Nat} {ys : List Str} {Q : D → MH → Prop} {E : XE} (e : getL h i = some (ys.map .str)) (c : ys.length < 4000) (q : Q (.ref h.length) (h ++ [.lst ((sortS ys.eraseDups).map .str)])) : Sat (dSortSet [.ref i] h) Q E := w_eq (by simp only [dSortSet, e, Option.bind_some, allStr_map, if_pos c]) q
theorem o_sortSet {h0 h : MH} {L : LL} {i : Nat} {ys : List Str} {Q : D → MH → Prop} {E : XE} (o : Own h0 h L) (e : getL h i = some (ys.map .str)) (c : ys.length < 4000) (q : ∀ i h', Own h0 h' ((i, (sortS ys.eraseDups).map .str) :: L) → Q (.ref i) h') : Sat (dSortSet [.ref i] h) Q E := w_sortSet e c (q _ _ (o.alloc _))
end Mi

/-! list(d.values()). -/
namespace Mi
open PySem L2 PySem.Spec PyProof.Rows
def mVals (a : ME) : ME := fun ρ h => (a ρ h).bind fun x h1 => match getK h1 x with
  | some l => .ok (.ref h1.length) (h1 ++ [.lst (l.map (·.2))])
  | none => .bad
section
variable {X : Cx} {g : G} {W : WX} {ma : ME} {a : Expr} {p apos q pos : Pos}
end
def dVals : List D → MH → R D
  | [x], h1 => match getK h1 x with
    | some l => .ok (.ref h1.length) (h1 ++ [.lst (l.map (·.2))])
    | none => .bad
  | _, _ => .bad
section
variable {X : Cx} {g : G} {W : WX} {ma : ME} {a : Expr} {p apos q pos : Pos}
end
/-! ### l.index(x), items of any depth -/
def dLIdx : D → List D → MH → R D
  | .ref i, [y], h => match pyOf 60 h y, pyOf 60 h (.ref i) with
    | some d, some (.list es) => if SeqAt.shaped (.list es) = true ∧ SeqAt.shaped d = true then match es.findIdx? fun z => PyData.eqv z d with
      | some j => .ok (.int j) h
      | none => .bad else .bad
    | _, _ => .bad
  | _, _, _ => .bad
end Mi

/-! Dicts whose keys are tuples of whole numbers, texts, None, truths and such tuples: in, not in, d[k], d[k] = v, dict(pairs). -/
namespace Mi
open PySem L2 PySem.Spec PyProof.Rows
/-! ### keys -/
mutual
def NkV (K : PySem.W.Frag) (H : Hp) : NestedKey → V → Prop
  | .none, v => v = .non
  | .num i, v => v = .int i ∨ ∃ b, v = .bl b ∧ i = (if b = true then 1 else 0)
  | .text x, v => v = .str x
  | .tup ks, v => ∃ p xs, v = .ref p ∧ SqT K H p xs ∧ NkVs K H ks xs
def NkVs (K : PySem.W.Frag) (H : Hp) : List NestedKey → List V → Prop
  | [], vs => vs = []
  | k :: ks, vs => ∃ v r, vs = v :: r ∧ NkV K H k v ∧ NkVs K H ks r
end
mutual
theorem nkv_of {g : G} {H : Hp} {μ : List Addr} : ∀ (d : D) (v : V) (k : NestedKey), VR g H μ v d → nkD d = some k → NkV g.K H k v
  | .non, v, k, a, e => by cases a; cases e; exact rfl
  | .bl b, v, k, a, e => by cases a; cases e; exact .inr ⟨b, rfl, rfl⟩
  | .int i, v, k, a, e => by cases a; cases e; exact .inl rfl
  | .str x, v, k, a, e => by cases a; cases e; exact rfl
  | .tup l, v, k, a, e => by
    cases a with
    | tup hs vs =>
      simp only [nkD, Option.map_eq_some_iff] at e
      obtain ⟨ks, e, rfl⟩ := e
      exact ⟨_, _, rfl, hs.sq, nkvs_of l _ ks vs e⟩
  | .ref _, v, k, a, e => by cases e
  | .xo _ _ _, v, k, a, e => by cases e
theorem nkvs_of {g : G} {H : Hp} {μ : List Addr} : ∀ (l : List D) (vs : List V) (ks : List NestedKey), VRs g H μ vs l → nkDs l = some ks → NkVs g.K H ks vs
  | [], vs, ks, a, e => by cases a; cases e; exact rfl
  | d :: l, vs, ks, a, e => by
    cases a with
    | cons a b =>
      unfold nkDs at e
      split at e
      · rename_i k r e1 e2
        cases e
        exact ⟨_, _, rfl, nkv_of d _ k a e1, nkvs_of l _ r b e2⟩
      · cases e
end
section
variable {X : Cx} {pins : List (Addr × Obj)} {σ : L2.St} {H : Hp} {s : Shared}
mutual
theorem nis_of (I : L2.Inv X pins σ H s) : ∀ (k : NestedKey) (v : V) (u : Value), NkV X.K H k v → RelV v u → NestedIs s.heap k u
  | .none, v, u, n, r => by
    obtain rfl : v = .non := n
    cases r
    exact .none
  | .num i, v, u, n, r => by
    rcases n with rfl | ⟨b, rfl, e⟩
    · obtain ⟨t, rfl⟩ := r
      exact .int i t
    · cases r
      exact .bool e
  | .text x, v, u, n, r => by
    obtain rfl : v = .str x := n
    obtain ⟨t, rfl⟩ := r
    exact .text x t
  | .tup ks, v, u, n, r => by
    obtain ⟨p, xs, rfl, hs, hn⟩ := n
    cases r
    obtain ⟨its, rv, ⟨o, ho, hc, m, hd⟩, _⟩ := I.tuple hs
    exact .tup ho hc hd (by simpa using nisAll_of I ks xs its hn rv)
theorem nisAll_of (I : L2.Inv X pins σ H s) : ∀ (ks : List NestedKey) (vs : List V) (us : List Value), NkVs X.K H ks vs → Vals vs us → NestedAll s.heap ks us
  | [], vs, us, n, r => by
    obtain rfl : vs = [] := n
    cases r
    exact .nil
  | k :: ks, vs, us, n, r => by
    obtain ⟨v, q, rfl, h1, h2⟩ := n
    cases r with
    | cons a b => exact .cons (nis_of I k v _ h1 a) (nisAll_of I ks q _ h2 b)
end
end
/-! ### the dict in the heap -/
abbrev NE := List (NestedKey × Addr × Value)
def NKeys (K : PySem.W.Frag) (H : Hp) (xs : NE) : Prop := ∀ e ∈ xs, NkV K H e.1 (.ref e.2.1) ∧ e.1.depth ≤ 8
/-- a dict with such keys, or an empty one -/
def NDct (w : World) (H : Hp) (p : Addr) (xs : NE) : Prop := H p = some (DN w p xs) ∨ (H p = some (.dK []) ∧ xs = [])
section
variable {X : Cx} {pins : List (Addr × Obj)} {σ : L2.St} {H : Hp} {s : Shared} {p : Addr} {xs : NE}
theorem ndct_at (I : L2.Inv X pins σ H s) (h : NDct X.w H p xs) (hk : NKeys X.K H xs) : (p == sysModules) = false ∧ xs.length ≤ sizeLine ∧ s.heap.DictOfH (nestedKind X.prog X.w) p xs := by
  have keys : ∀ x ∈ xs, (nestedKind X.prog X.w).is s.heap x.1 x.2.1 := fun x hx => ⟨nis_of I x.1 (.ref x.2.1) (.ref x.2.1) (hk x hx).1 rfl, (hk x hx).2⟩
  rcases h with h | ⟨h, rfl⟩
  · obtain ⟨⟨z, hd, o, es, ep, h1, h2, h3, h4, h5⟩, _⟩ := I.hok p _ h
    exact ⟨hd, z, o, es, ep, h1, h2, h3, h4, keys, h5⟩
  · obtain ⟨z, hd, vs, rel, o, es, ep, g1, g2, g3, g4, g5, g6⟩ := dk_of I.hok h
    have hv : vs = [] := by
      have := rel.length
      simp at this
      exact List.length_eq_zero_iff.mp this.symm
    subst hv
    have ge : es.toList = [] := by
      cases q : es.toList with
      | nil => rfl
      | cons a b => rw [q] at g5; cases g5
    exact ⟨hd, Nat.zero_le _, o, es, ep, g1, g2, g3, by rw [ge]; rfl, keys, List.nodup_nil⟩
theorem ndct_mut (h : NDct X.w H p xs) : L2.Mut (H p) := by
  rcases h with h | ⟨h, _⟩ <;> rw [h] <;> exact True.intro
theorem ndct_put (I : L2.Inv X pins σ H s) (h : NDct X.w H p xs) {h' : Heap} {t' : Nat} {ys : NE} (hs : Heap.SameBut p s.heap h') (hz : ys.length ≤ sizeLine) (hd : (p == sysModules) = false) (dd : h'.DictOfH (nestedKind X.prog X.w) p ys) :
    L2.Inv X pins σ (upd H p (DN X.w p ys)) { s with heap := h', toks := t' } := by
  obtain ⟨o, es, ep, h1, h2, h3, h4, h5, h6⟩ := dd
  refine d_write I (ndct_mut h) hs ⟨o, h1⟩ ⟨⟨hz, hd, o, es, ep, h1, h2, h3, h4, h6⟩, ⟨o, h1⟩, fun a b ha hb => ?_⟩
  obtain ⟨z, d, o', es', ep', e1, e2⟩ := ha
  exact ⟨z, d, o', es', ep', hb _ e1, e2⟩
end
def rNIn (K : PySem.W.Frag) (w : World) : R2 := fun x y H Q => ∃ a p k xs, x = .ref a ∧ y = .ref p ∧ NkV K H k (.ref a) ∧ k.depth ≤ 8 ∧ NDct w H p xs ∧ NKeys K H xs ∧ Q (.bl (atKey xs k).isSome) H
def rNNotIn (K : PySem.W.Frag) (w : World) : R2 := fun x y H Q => ∃ a p k xs, x = .ref a ∧ y = .ref p ∧ NkV K H k (.ref a) ∧ k.depth ≤ 8 ∧ NDct w H p xs ∧ NKeys K H xs ∧ Q (.bl (!(atKey xs k).isSome)) H
def rNIx (K : PySem.W.Frag) (w : World) : R2 := fun x y H Q => ∃ a p k xs c u v, y = .ref a ∧ x = .ref p ∧ NkV K H k (.ref a) ∧ k.depth ≤ 8 ∧ NDct w H p xs ∧ NKeys K H xs ∧ atKey xs k = some (c, u) ∧ RelV v u ∧ Q v H
def rNSet (K : PySem.W.Frag) (w : World) : V → V → V → Hp → (Hp → Prop) → Prop := fun o i v H Q => ∃ a p k xs, o = .ref p ∧ i = .ref a ∧ NkV K H k (.ref a) ∧ k.depth ≤ 8 ∧ NDct w H p xs ∧ NKeys K H xs ∧ xs.length < sizeLine ∧
  ∀ u, RelV v u → Q (upd H p (DN w p (storedH xs k a u)))
theorem stored_len (xs : NE) (k : NestedKey) (a : Addr) (u : Value) : (storedH xs k a u).length ≤ xs.length + 1 := PySem.storedH_length xs k a u
section
variable {X : Cx}
theorem op_nNotIn (hu : X.A.units + 65 < cLine) : OpR X (compareOp .NotIn) (rNNotIn X.K X.w) := fun pins s σ H x y v u Q I rx ry ⟨a, p, k, xs, ex, ey, hk, hd, hp, hx, q⟩ => by
  subst ex ey
  cases rx
  cases ry
  obtain ⟨h1, h2, h3⟩ := ndct_at I hp hx
  have e : ((nestedKind X.prog X.w).room X.A.in1) := by
    show X.A.in1.units + 8 < cLine
    have : X.A.in1.units ≤ X.A.units + 1 := by first | exact Nat.le_refl _ | decide | simp [Around.in1]
    omega
  exact wpAny_notIn_heap e ⟨nis_of I k _ _ hk rfl, hd⟩ h1 h3 ⟨.bl _, H, I.tok _, rfl, q⟩
theorem ix_n (hu : X.A.units + 65 < cLine) : IxR X (rNIx X.K X.w) := by
  intro value slice pins s σ H x y v u Q I rx ry h hs
  obtain ⟨a, p, k, xs, c, u', r, ey, ex, hk, hd, hp, hx, hat, hr, q⟩ := h
  subst ex ey
  obtain rfl : v = Value.ref p := rx
  obtain rfl : u = Value.ref a := ry
  obtain ⟨h1, h2, h3⟩ := ndct_at I hp hx
  have e : ((nestedKind X.prog X.w).room X.A.in1) := by
    show X.A.in1.units + 8 < cLine
    have : X.A.in1.units ≤ X.A.units + 1 := by first | exact Nat.le_refl _ | decide | simp [Around.in1]
    omega
  exact tail_any h3.typeIs slot_dict_getitem.lookup (wpAny_getItem_heap e ⟨nis_of I k _ _ hk rfl, hd⟩ h3 hat ⟨r, H, I.tok _, hr, q⟩) hs
theorem set_n (hu : X.A.units + 65 < cLine) : PSet X (rNSet X.K X.w) := fun pins s σ H o i v ov iv u Q I ro ri rv ⟨a, p, k, xs, eo, ei, hk, hd, hp, hx, hl, q⟩ => by
  subst eo ei
  cases ro
  cases ri
  obtain ⟨h1, h2, h3⟩ := ndct_at I hp hx
  have e : ((nestedKind X.prog X.w).room X.A.in1) := by
    show X.A.in1.units + 8 < cLine
    have : X.A.in1.units ≤ X.A.units + 1 := by first | exact Nat.le_refl _ | decide | simp [Around.in1]
    omega
  refine wpAny_setItem_heap e ⟨nis_of I k _ _ hk rfl, hd⟩ h3 (fun h' dd hs => ?_) h2
  exact ⟨_, ndct_put I hp hs (Nat.le_trans (stored_len xs k a u) hl) h1 dd, q u rv⟩
end
/-! ### the mirror -/
def nkT (d : D) : Option NestedKey := match d with
  | .tup l => match nkD (.tup l) with
    | some k => if k.depth ≤ 8 then some k else none
    | none => none
  | _ => none
def getN (h : MH) (x : D) : Option (List (NestedKey × D)) := match x with
  | .ref i => match h[i]? with
    | some (.dN l) => some l
    | some (.dK []) => some []
    | _ => none
  | _ => none
def valN (kvs : List (NestedKey × D)) (k : NestedKey) : Option D := (kvs.find? fun x => decide (x.1 = k)).map (·.2)
def putN (kvs : List (NestedKey × D)) (k : NestedKey) (d : D) : List (NestedKey × D) :=
  if (valN kvs k).isSome = true then kvs.map (fun x => if x.1 = k then (x.1, d) else x) else kvs ++ [(k, d)]
section
variable {g : G} {H : Hp} {μ : List Addr} {h : MH}
theorem nkT_of {v : V} {d : D} {k : NestedKey} (vx : VR g H μ v d) (e : nkT d = some k) : ∃ a, v = .ref a ∧ NkV g.K H k (.ref a) ∧ k.depth ≤ 8 ∧ nkD d = some k := by
  unfold nkT at e
  split at e
  · rename_i l
    split at e
    · rename_i k' e1
      split at e
      · rename_i hd
        cases e
        have n := nkv_of _ _ _ vx e1
        cases vx with
        | tup hs vs => exact ⟨_, rfl, n, hd, e1⟩
      · cases e
    · cases e
  · cases e
theorem NR.keys : ∀ {xs : NE} {kvs : List (NestedKey × D)}, NR g H μ xs kvs → NKeys g.K H xs
  | _, _, .nil => fun e he => by simp at he
  | _, _, .cons a e l r v b => fun x hx => by
    rcases List.mem_cons.mp hx with rfl | hx
    · exact ⟨nkv_of _ _ _ a e, l⟩
    · exact NR.keys b x hx
theorem getN_of {x : V} {d : D} {l : List (NestedKey × D)} (hr : HR g H μ h) (vx : VR g H μ x d) (e : getN h d = some l) : ∃ i p xs, d = .ref i ∧ x = .ref p ∧ μ[i]? = some p ∧ NDct g.w H p xs ∧ NR g H μ xs l ∧ (h[i]? = some (.dN l) ∨ (h[i]? = some (.dK []) ∧ l = [])) := by
  cases vx with
  | @ref p i hi =>
    simp only [getN] at e
    split at e
    · rename_i l' q
      cases e
      obtain ⟨xs, h1, h2⟩ := hr.ob _ _ _ hi q
      exact ⟨i, p, xs, rfl, rfl, hi, .inl h1, h2, .inl q⟩
    · rename_i q
      cases e
      obtain ⟨kv, h1, h2⟩ := hr.ob _ _ _ hi q
      cases h2
      exact ⟨i, p, [], rfl, rfl, hi, .inr ⟨h1, rfl⟩, .nil, .inr ⟨q, rfl⟩⟩
    · cases e
  | _ => cases e
theorem NR.val (k : NestedKey) : ∀ {xs : NE} {kvs : List (NestedKey × D)}, NR g H μ xs kvs → (atKey xs k = none ∧ valN kvs k = none) ∨ ∃ a u v d, atKey xs k = some (a, u) ∧ valN kvs k = some d ∧ RelV v u ∧ VR g H μ v d
  | _, _, .nil => .inl ⟨rfl, rfl⟩
  | _, _, @NR.cons _ _ _ k' a u e d v xs ds va ek l r vd b => by
    by_cases c : k' = k
    · refine .inr ⟨a, u, v, d, ?_, ?_, r, vd⟩
      · simp [atKey, List.find?_cons, c]
      · simp [valN, List.find?_cons, c]
    · have e1 : atKey ((k', a, u) :: xs) k = atKey xs k := by simp [atKey, List.find?_cons, c]
      have e2 : valN ((k', d) :: ds) k = valN ds k := by simp [valN, List.find?_cons, c]
      rw [e1, e2]
      exact NR.val k b
theorem NR.some_eq (k : NestedKey) {xs : NE} {kvs : List (NestedKey × D)} (r : NR g H μ xs kvs) : (atKey xs k).isSome = (valN kvs k).isSome := by
  rcases r.val k with ⟨e1, e2⟩ | ⟨a, u, v, d, e1, e2, _⟩ <;> rw [e1, e2] <;> rfl
theorem NR.repl (k : NestedKey) {u : Value} {v : V} {d : D} (ru : RelV v u) (vd : VR g H μ v d) : ∀ {xs : NE} {kvs : List (NestedKey × D)}, NR g H μ xs kvs → NR g H μ (xs.map (putAt k u)) (kvs.map fun x => if x.1 = k then (x.1, d) else x)
  | _, _, .nil => .nil
  | _, _, @NR.cons _ _ _ k' a u' e d' v' xs ds va ek l r vd' b => by
    rw [List.map_cons, List.map_cons]
    by_cases c : k' = k
    · simp only [putAt, c, if_true]
      exact .cons va (c ▸ ek) (c ▸ l) ru vd (NR.repl k ru vd b)
    · simp only [putAt, c, if_false]
      exact .cons va ek l r vd' (NR.repl k ru vd b)
theorem NR.snoc {k : NestedKey} {a : Addr} {u : Value} {e d : D} {v : V} (va : VR g H μ (.ref a) e) (ek : nkD e = some k) (l : k.depth ≤ 8) (ru : RelV v u) (vd : VR g H μ v d) : ∀ {xs : NE} {kvs : List (NestedKey × D)}, NR g H μ xs kvs → NR g H μ (xs ++ [(k, a, u)]) (kvs ++ [(k, d)])
  | _, _, .nil => .cons va ek l ru vd .nil
  | _, _, .cons a1 e1 l1 r1 v1 b => .cons a1 e1 l1 r1 v1 (NR.snoc va ek l ru vd b)
theorem NR.put {k : NestedKey} {a : Addr} {u : Value} {e d : D} {v : V} (va : VR g H μ (.ref a) e) (ek : nkD e = some k) (l : k.depth ≤ 8) (ru : RelV v u) (vd : VR g H μ v d) {xs : NE} {kvs : List (NestedKey × D)} (r : NR g H μ xs kvs) : NR g H μ (storedH xs k a u) (putN kvs k d) := by
  unfold storedH putN
  rw [r.some_eq k]
  split
  · exact r.repl k ru vd
  · exact r.snoc va ek l ru vd
theorem NR.len : ∀ {xs : NE} {kvs : List (NestedKey × D)}, NR g H μ xs kvs → xs.length = kvs.length
  | _, _, .nil => rfl
  | _, _, .cons _ _ _ _ _ b => by rw [List.length_cons, List.length_cons, NR.len b]
end
def dNIn (a b : D) (h : MH) : R D := match nkT a, getN h b with
  | some k, some l => .ok (.bl (valN l k).isSome) h
  | _, _ => .bad
def dNNotIn (a b : D) (h : MH) : R D := match nkT a, getN h b with
  | some k, some l => .ok (.bl (!(valN l k).isSome)) h
  | _, _ => .bad
def dNIx (a b : D) (h : MH) : R D := match getN h a, nkT b with
  | some l, some k => match valN l k with
    | some v => .ok v h
    | none => .bad
  | _, _ => .bad
def dNSet (x y d : D) (h : MH) : R Unit := match x, nkT y, getN h x with
  | .ref i, some k, some l => if l.length < 1000000 then .ok () (h.set i (.dN (putN l k d))) else .bad
  | _, _, _ => .bad
/-- any key: an int, a text, or a tuple of such -/
def dAIn (a b : D) (h : MH) : R D := match keyD a with
  | some _ => dDIn a b h
  | none => dNIn a b h
def dANotIn (a b : D) (h : MH) : R D := match keyD a with
  | some _ => dDNotIn a b h
  | none => dNNotIn a b h
def dAIx (a b : D) (h : MH) : R D := match keyD b with
  | some _ => dDIx a b h
  | none => dNIx a b h
def dASet (x y d : D) (h : MH) : R Unit := match keyD y with
  | some _ => dDSet x y d h
  | none => dNSet x y d h
def mASet (o i e : ME) : MS := fun ρ h => (e ρ h).out ρ fun d h1 => (o ρ h1).out ρ fun x h2 => (i ρ h2).out ρ fun y h3 => (dASet x y d h3).out ρ fun _ h4 => .nx ρ h4
def rAIn (K : PySem.W.Frag) (w : World) : R2 := fun x y H Q => rDIn x y H Q ∨ rNIn K w x y H Q
def rANotIn (K : PySem.W.Frag) (w : World) : R2 := fun x y H Q => rDNotIn x y H Q ∨ rNNotIn K w x y H Q
def rDIxK : R2 := fun x y H Q => ∃ a k kvs v, x = .ref a ∧ y = kV k ∧ H a = some (.dK kvs) ∧ valV kvs k = some v ∧ Q v H
def rAIx (K : PySem.W.Frag) (w : World) : R2 := fun x y H Q => rDIxK x y H Q ∨ rNIx K w x y H Q
section
variable {X : Cx} {g : G} {W : WX}
theorem ix_dK (hu : X.A.units + 65 < cLine) : IxR X rDIxK := by
  intro value slice pins s σ H x y v u Q I rx ry h hs
  obtain ⟨a, k, kvs, r, ex, ey, ha, hv, q⟩ := h
  subst ex ey
  obtain rfl : v = Value.ref a := rx
  obtain ⟨z, hd, vs, rel, dd⟩ := dk_of I.hok ha
  refine tail_any dd.typeIs slot_dict_getitem.lookup ?_ hs
  exact d_getItem (v := r) (by omega) I (by have := DGet.k (k := k) ha; rw [hv] at this; exact this) ry fun w' s' I' r' => ⟨r, H, I', r', q⟩
theorem op_aNotIn (hu : X.A.units + 65 < cLine) : OpR X (compareOp .NotIn) (rANotIn X.K X.w) := (op_dNotIn hu).or (op_nNotIn hu)
theorem ix_a (hu : X.A.units + 65 < cLine) : IxR X (rAIx X.K X.w) := (ix_dK hu).or (ix_n hu)
theorem s2_nNotIn : S2 g (rNNotIn g.K g.w) dNNotIn := by
  intro H μ h x y a b Q W hr vx vy bk
  unfold dNNotIn at bk
  split at bk
  · rename_i k l e1 e2
    obtain ⟨c, rfl, n1, n2, n3⟩ := nkT_of vx e1
    obtain ⟨i, p, xs, rfl, rfl, hi, hp, nr, _⟩ := getN_of hr vy e2
    exact ⟨c, p, k, xs, rfl, rfl, n1, n2, hp, nr.keys, by rw [nr.some_eq]; exact bk.val hr (.bl _)⟩
  · exact bk.elim
theorem s2_nIx : S2 g (rNIx g.K g.w) dNIx := by
  intro H μ h x y a b Q W hr vx vy bk
  unfold dNIx at bk
  split at bk
  · rename_i l k e1 e2
    obtain ⟨c, rfl, n1, n2, n3⟩ := nkT_of vy e2
    obtain ⟨i, p, xs, rfl, rfl, hi, hp, nr, _⟩ := getN_of hr vx e1
    split at bk
    · rename_i v ev
      rcases nr.val k with ⟨_, z⟩ | ⟨a', u', v', d', z1, z2, z3, z4⟩
      · rw [ev] at z; cases z
      · rw [ev] at z2
        cases z2
        exact ⟨c, p, k, xs, a', u', v', rfl, rfl, n1, n2, hp, nr.keys, z1, z3, bk.val hr z4⟩
    · exact bk.elim
  · exact bk.elim
theorem s2_aNotIn : S2 g (rANotIn g.K g.w) dANotIn := by
  intro H μ h x y a b Q W hr vx vy bk
  unfold dANotIn at bk
  split at bk
  · exact .inl (s2_dNotIn H μ h x y a b Q W hr vx vy bk)
  · exact .inr (s2_nNotIn H μ h x y a b Q W hr vx vy bk)
theorem s2_aIx : S2 g (rAIx g.K g.w) dAIx := by
  intro H μ h x y a b Q W hr vx vy bk
  unfold dAIx at bk
  split at bk
  · rename_i k0 ek0
    refine .inl ?_
    unfold dDIx at bk
    split at bk
    · rename_i l k e1 e2
      obtain ⟨i, p, kv, rfl, rfl, hi, q, hp, kr⟩ := getK_of hr vx e1
      split at bk
      · rename_i v ev
        rcases kr.val k with ⟨_, z⟩ | ⟨v', d, h1, h2, h3⟩
        · rw [ev] at z; cases z
        · rw [ev] at h2
          cases h2
          exact ⟨p, k, kv, v', rfl, keyD_of vy e2, hp, h1, bk.val hr h3⟩
      · exact bk.elim
    · exact bk.elim
  · exact .inr (s2_nIx H μ h x y a b Q W hr vx vy bk)
theorem pset_or {t t' : V → V → V → Hp → (Hp → Prop) → Prop} (a : PSet X t) (b : PSet X t') : PSet X (fun o i v H Q => t o i v H Q ∨ t' o i v H Q) := by
  intro pins s σ H o i v ov iv u Q I ro ri rv h
  rcases h with h | h
  · exact a pins s σ H o i v ov iv u Q I ro ri rv h
  · exact b pins s σ H o i v ov iv u Q I ro ri rv h
variable {o i e : Expr} {mo mi me : ME} {pos p2 : Pos}
theorem se_aix (hu : X.A.units + 65 < cLine) (ho : PE X o (tE (gOf X.w X.K) W mo)) (hi : PE X i (tE (gOf X.w X.K) W mi)) (hp : PlainIx i) : PE X (.Subscript o i pos) (tE (gOf X.w X.K) W (mBin dAIx mo mi)) := se_ix (ix_a hu) s2_aIx ho hi hp
theorem sx_aset (hu : X.A.units + 65 < cLine) (ho : PE X o (tE (gOf X.w X.K) W mo)) (hi : PE X i (tE (gOf X.w X.K) W mi)) (he : PE X e (tE (gOf X.w X.K) W me))
    (ha : ∀ v, assign (.Subscript o i p2) X.env v = (do
      let ov ← holding [v] (eval o X.env)
      let iv ← holding [v, ov] (eval i X.env)
      standAt p2
      holding [v, ov, iv] (setItem ov iv v)
      release [v, ov, iv] []) := by intro _; rfl)
    (hs : swapsWithSole [.Subscript o i p2] e pos.line X.env = pure false := by rfl) (hw : swappedStores [.Subscript o i p2] e X.env = pure none := by rfl)
    (h1 : (assignEach [.Subscript o i p2] X.env).map (·.2) = [assign (.Subscript o i p2) X.env] := by rfl) : PS X (.Assign [.Subscript o i p2] e pos) (tS (gOf X.w X.K) W (mASet mo mi me)) :=
  ps_mono (ps_asg he (pg_sub ho hi (pset_or (set_dict hu) (set_n hu)) ha) hs hw h1) fun E σ H ⟨ρ, h, μ, sr, hr, bk⟩ =>
    stepS (rel := VR) (ma := me) (E := E) sr hr bk fun v d h1 H1 μ1 m1 sr1 hr1 vd bk1 => stepS (rel := VR) (ma := mo) (E := E) sr1 hr1 bk1 fun x a h2 H2 μ2 m2 sr2 hr2 vx bk2 => stepS (rel := VR) (ma := mi) (E := E) sr2 hr2 bk2 fun y b h3 H3 μ3 m3 sr3 hr3 vy bk3 => by
      have vx := vx.mono m3
      have vd := (vd.mono m2).mono m3
      unfold dASet at bk3
      split at bk3
      · refine .inl ?_
        unfold dDSet at bk3
        split at bk3
        · rename_i k l e1 _ e2
          obtain ⟨c', p, kv, ec, rfl, hi, q, hp, kr⟩ := getK_of hr3 vx e2
          cases ec
          split at bk3
          · rename_i hl
            refine ⟨p, k, kv, rfl, keyD_of vy e1, hp, by rw [kr.len]; exact sz6' hl, ?_⟩
            have m5 : Mon (gOf X.w X.K) H3 (upd H3 p (.dK (putK kv k v))) μ3 μ3 := (Saf.dK hp).mon
            exact bk3 _ _ μ3 m5 (sr3.mono m5) (hr3.write (u := .dK (putKD l k d)) hi q rfl (Saf.dK hp) rfl ⟨_, upd_same, (kr.put k vd).mono m5⟩)
          · exact bk3.elim
        · exact bk3.elim
      · refine .inr ?_
        unfold dNSet at bk3
        split at bk3
        · rename_i k l e1 _ e2
          obtain ⟨c', p, xs, ec, rfl, hi, hp, nr, hc⟩ := getN_of hr3 vx e2
          cases ec
          obtain ⟨a', rfl, n1, n2, n3⟩ := nkT_of vy e1
          split at bk3
          · rename_i hl
            refine ⟨a', p, k, xs, rfl, rfl, n1, n2, hp, nr.keys, by rw [nr.len]; exact sz6' hl, fun u ru => ?_⟩
            have sf : Saf H3 p := by
              rcases hp with hp | ⟨hp, _⟩
              · exact Saf.dN hp
              · exact Saf.dK hp
            have m5 : Mon (gOf X.w X.K) H3 (upd H3 p (DN X.w p (storedH xs k a' u))) μ3 μ3 := sf.mon
            have nr2 : NR (gOf X.w X.K) (upd H3 p (DN X.w p (storedH xs k a' u))) μ3 (storedH xs k a' u) (putN l k d) := (nr.put vy n3 n2 ru vd).mono m5
            rcases hc with hc | ⟨hc, _⟩
            · exact bk3 _ _ μ3 m5 (sr3.mono m5) (hr3.write (u := .dN (putN l k d)) hi hc rfl sf rfl ⟨_, upd_same, nr2⟩)
            · exact bk3 _ _ μ3 m5 (sr3.mono m5) (hr3.write (u := .dN (putN l k d)) hi hc rfl sf rfl ⟨_, upd_same, nr2⟩)
          · exact bk3.elim
        · exact bk3.elim
end
end Mi

/-! dict(xs) of a list of pairs whose firsts are tuples. -/
namespace Mi
open PySem L2 PySem.Spec PyProof.Rows
/-- a pair as it stands: its address, the key's, the key, the value -/
structure PR4 where
  t : Addr
  a : Addr
  k : NestedKey
  v : V
abbrev PRU := List (PR4 × Value)
def neOf (T : PRU) : NE := T.map fun q => (q.1.k, q.1.a, q.2)
def rDictP (K : PySem.W.Frag) (w : World) : List V → Hp → VK → Prop := fun xs H Q => ∃ (l : Addr) (T : List PR4), xs = [V.ref l] ∧ SqL K H l (T.map fun r => V.ref r.t) ∧ (∀ r ∈ T, SqT K H r.t [V.ref r.a, r.v] ∧ NkV K H r.k (.ref r.a) ∧ r.k.depth ≤ 8) ∧ T.length < sizeLine ∧
  ∀ p (TU : PRU), H p = none → TU.map (·.1) = T → (∀ x ∈ TU, RelV x.1.v x.2) → Q (.ref p) (upd H p (DN w p (PySem.storedAllH [] (neOf TU))))
section
variable {X : Cx}
end
/-! ### the mirror -/
def pairsN : List D → Option (List (NestedKey × D))
  | [] => some []
  | .tup [kd, vd] :: l => match nkT kd, pairsN l with
    | some k, some r => some ((k, vd) :: r)
    | _, _ => none
  | _ :: _ => none
def foldN (acc : List (NestedKey × D)) (l : List (NestedKey × D)) : List (NestedKey × D) := l.foldl (fun a p => putN a p.1 p.2) acc
def dDictP : List D → MH → R D
  | [.ref i], h => match (getL h i).bind pairsN with
    | some l => if l.length < 1000000 then .ok (.ref h.length) (h ++ [.dN (foldN [] l)]) else .bad
    | none => .bad
  | _, _ => .bad
inductive PRR (g : G) (H : Hp) (μ : List Addr) : List PR4 → List (NestedKey × D) → Prop
  | nil : PRR g H μ [] []
  | cons {r : PR4} {e d : D} {T : List PR4} {l : List (NestedKey × D)} : VR g H μ (.ref r.a) e → nkD e = some r.k → r.k.depth ≤ 8 → VR g H μ r.v d → PRR g H μ T l → PRR g H μ (r :: T) ((r.k, d) :: l)
section
variable {g : G} {H H1 : Hp} {μ μ1 : List Addr}
theorem PRR.mono (m : Mon g H H1 μ μ1) : ∀ {T : List PR4} {l : List (NestedKey × D)}, PRR g H μ T l → PRR g H1 μ1 T l
  | _, _, .nil => .nil
  | _, _, .cons a b c d e => .cons (a.mono m) b c (d.mono m) (PRR.mono m e)
theorem PRR.len : ∀ {T : List PR4} {l : List (NestedKey × D)}, PRR g H μ T l → T.length = l.length
  | _, _, .nil => rfl
  | _, _, .cons _ _ _ _ e => by rw [List.length_cons, List.length_cons, PRR.len e]
theorem pairs_of : ∀ {vs : List V} {ds : List D} {l : List (NestedKey × D)}, VRs g H μ vs ds → pairsN ds = some l → ∃ T : List PR4, vs = T.map (fun r => V.ref r.t) ∧ (∀ r ∈ T, SqT g.K H r.t [V.ref r.a, r.v] ∧ NkV g.K H r.k (.ref r.a) ∧ r.k.depth ≤ 8) ∧ PRR g H μ T l
  | _, _, l, .nil, e => by
    cases e
    exact ⟨[], rfl, fun r hr => by simp at hr, .nil⟩
  | _, _, l, @VRs.cons _ _ _ v d vs ds a b, e => by
    unfold pairsN at e
    split at e
    · rename_i q; cases q
    · rename_i kd vd l' q
      cases q
      split at e
      · rename_i k r e1 e2
        cases e
        obtain ⟨T, h1, h2, h3⟩ := pairs_of b e2
        cases a with
        | @tup p xs _ hs hv =>
          cases hv with
          | cons a1 b1 =>
            cases b1 with
            | cons a2 b2 =>
              cases b2
              obtain ⟨c, rfl, n1, n2, n3⟩ := nkT_of a1 e1
              refine ⟨⟨p, c, k, _⟩ :: T, by rw [h1]; rfl, fun r hr => ?_, .cons a1 n3 n2 a2 h3⟩
              rcases List.mem_cons.mp hr with rfl | hr
              · exact ⟨hs.sq, n1, n2⟩
              · exact h2 r hr
      · cases e
    · cases e
end
/-! ### the calculus -/
theorem w_nIx {h : MH} {i : Nat} {l : List (NestedKey × D)} {x v : D} {k : NestedKey} {Q : D → MH → Prop} {E : XE} (c : keyD x = none) (ek : nkT x = some k) (e : getN h (.ref i) = some l) (ev : valN l k = some v) (q : Q v h) : Sat (dAIx (.ref i) x h) Q E := w_eq (by simp only [dAIx, c, dNIx, ek, e, ev]) q
end Mi

/-! A def of a class, called through the class: Base.__init__(self). -/
namespace Mi
open PySem L2 PySem.Spec PyProof.Rows ClX
def Dc (K : PySem.W.Frag) (mg : Str → Option Value) (c x qual : Str) (st : Stmt) (ps : List Str) : Prop :=
  ∃ C mc f fd, mg c = some (.ref C) ∧ CRead K C mc ∧ PySem.W.findCls K (.ref C) mc x = some (.val (.ref f)) ∧ Fun K x qual st f fd ∧ Binds K fd ps []
def CfOf (P : Program) (w : World) (K : PySem.W.Frag) (mg : Str → Option Value) (base : Heap) (c x : Str) (k : Nat) (F : List D → MH → R D) : Prop :=
  ∃ C mc f fd ps, mg c = some (.ref C) ∧ CRead K C mc ∧ PySem.W.findCls K (.ref C) mc x = some (.val (.ref f)) ∧ PySem.W.keepIn K (.ref f) = true ∧ FnOk P w K mg base (L2.CX P w) k f fd ps (spM (gOf w K) F) ∧ Binds K fd ps []
section
variable {P : Program} {w : World} {K : PySem.W.Frag} {mg : Str → Option Value} {base : Heap} {h : Heap}
theorem dc_mk {c x qual : Str} {st : Stmt} {ps : List Str} {C f : Addr} {mc oc : Value} {od an : Option Addr} {osl : Array (Option Value)} {kV doc pm cdv ct : Value} (X : K.In h) (G : h.Ns mainGlobals mg)
    (a : PySem.W.nsIn K mainGlobals c = some (some (.ref C))) (hr : PySem.W.readsIn K C mc = true) (hg : PySem.W.specialIn K (.ref C) "__getattribute__" = some (some (.builtin "type.__getattribute__"))) (hf : PySem.W.findCls K (.ref C) mc x = some (.val (.ref f)))
    (l : K.lookup f = some ⟨oc, od, .func (PySem.W.fnOf x qual (defArgs st) (defBody st) (defScope st) .none kV doc pm an cdv ct), osl⟩)
    (e : PySem.W.codeIn K cdv qual = true) (k : PySem.W.keepIn K (.ref f) = true)
    (hb : ∀ (kV doc pm : Value) (an : Option Addr) (cdv ct : Value) (us : List Value), us.length = ps.length → bindArgs (PySem.W.fnOf x qual (defArgs st) (defBody st) (defScope st) .none kV doc pm an cdv ct) ⟨us, []⟩ = pure (ps.zip us)) : Dc K mg c x qual st ps := by
  have F := fun_mk (st := st) l e k
  exact ⟨C, mc, f, _, PySem.W.mg_of X G a, ⟨hr, hg⟩, hf, F, F.binds hb⟩
theorem cfof_mk {c x qual : Str} {st : Stmt} {N ps : List Str} {k : Nat} {body : MS} (d : Dc K mg c x qual st ps) (S : FnScope N ps (defScope st))
    (hb : ∀ (f : Addr) (cdv : Value) (A : Around) (outer : List Env) (s : Shared) (H : Hp) (E : XK), Room k (A.deeper (PyProof.Rows.envOfC qual (defScope st) s.heap.objs.size f cdv)) →
      PSs (cxOf (L2.CX P w) P w K mg base N qual (defScope st) f cdv A outer s H E) (defBody st) (tS (gOf w K) (fun c d _ H' => E c d H') body)) : CfOf P w K mg base c x (k + 1) (mFun ps.length N.length body) := by
  obtain ⟨C, mc, f, fd, h1, h2, h3, F, b⟩ := d
  exact ⟨C, mc, f, fd, ps, h1, h2, h3, F.kp, fn_mk F S (hb f), b⟩
theorem CfOf.mono {c x : Str} {F : List D → MH → R D} {j k : Nat} (e : CfOf P w K mg base c x j F) (h : j ≤ k) : CfOf P w K mg base c x k F := by
  obtain ⟨C, mc, f, fd, ps, h1, h2, h3, h4, h5, h6⟩ := e
  exact ⟨C, mc, f, fd, ps, h1, h2, h3, h4, h5.mono h, h6⟩
end
section
variable {X : Cx} {W : WX} {e : Expr} {es : List Expr} {mr : MA} {p pos apos : Pos} {c x : Str}
theorem se_clsCall {k : Nat} {F : List D → MH → R D} {pl : Sem Bool} (M : CfOf X.prog X.w X.K X.mg X.base c x k F) (hr : Room k X.A) (tk : Takes X W) (ha : PA X (e :: es) (tA (gOf X.w X.K) W mr)) (hg : Gl X c := by rfl) (hdb : (c == ("__debug__" : Str)) = false := by decide)
    (hst : starEach (e :: es) X.env = (false, eval e X.env) :: starEach es X.env := by rfl) (hpl : (backTo pos (starEach es X.env)).any (·.1) = false := by rfl)
    (ht : eval (.Call (.Attribute (.Name c p) x apos) (e :: es) [] pos) X.env = (do
      let ov ← eval (.Name c p) X.env
      standAt apos.atName
      let (f, first) ← holding [ov] (getMethod ov x pl)
      callWith pos f first (backTo pos (starEach (e :: es) X.env)) (backToKw pos (keywordEach [] X.env))) := by rfl) :
    PE X (.Call (.Attribute (.Name c p) x apos) (e :: es) [] pos) (tE (gOf X.w X.K) W (mCall F mr)) := by
  obtain ⟨C, mc, f, fd, ps, hC, rd, hf, kp, F1, b⟩ := M
  have pg := pe_glob (X := X) (x := c) (pos := p) (v := .ref C) hg hC rfl hdb
  refine ⟨fun pins s σ H Q I ⟨ρ, h, μ, sr, hr', bk⟩ => ?_⟩
  have st : tA (gOf X.w X.K) W mr σ H fun vs H1 => spM (gOf X.w X.K) F vs H1 Q (WE W σ) :=
    step (rel := VRs) (rel' := VR) (ma := mr) (Q' := Q) sr hr' bk fun vs ds h1 H1 μ1 m1 sr1 hr1 vd bk1 => ⟨_, h1, μ1, vd, hr1, bk1⟩
  refine PySem.W.methodCall_KW (pl := pl) (thn (pg.run pins s σ H (fun v H1 => v = .ref C ∧ tA (gOf X.w X.K) W mr σ H1 fun vs H2 => spM (gOf X.w X.K) F vs H2 Q (WE W σ)) I ⟨rfl, st⟩) fun u s1 ⟨v, H1, I1, rx, ev, q⟩ => ?_) ht
  subst ev
  obtain rfl : u = Value.ref C := rx
  refine PySem.W.method_cls I1.kIn rd.ga (getcval_ok I1 rd (CVal.mk (v := V.ref f) hf rfl) fun s2 I2 => ?_)
  refine PySem.W.callWith_K (first := []) (h₀ := X.base) I2.ok.mod.kin kp (thn (ha.run pos pins s2 σ H1 _ I2 q) fun us s3 ⟨vs, H2, I3, r, q2⟩ => ⟨I3.kIn, ?_⟩) hst hpl
  exact run_fnS (E := WE W) (us := us) (vs := vs) F1 hr b (passAt tk σ) I3 r q2
end
end Mi

/-! list.insert(i, x), list.pop(i), i not below 0. -/
namespace Mi
open PySem L2 PySem.Spec PyProof.Rows
def rInsert : V → List V → Hp → VK → Prop := fun x vs H Q => ∃ (l : Addr) (xs : List V) (i : Int) (y : V), x = .ref l ∧ vs = [.int i, y] ∧ H l = some (.lst xs) ∧ xs.length < sizeLine ∧ 0 ≤ i ∧ i < 2 ^ 63 ∧
    Q .non (upd H l (.lst (xs.take i.toNat ++ [y] ++ xs.drop i.toNat)))
theorem VRs.erase {g : G} {H : Hp} {μ : List Addr} : ∀ {vs : List V} {ds : List D} (n : Nat), VRs g H μ vs ds → VRs g H μ (vs.eraseIdx n) (ds.eraseIdx n)
  | _, _, _, .nil => .nil
  | _, _, 0, .cons a b => b
  | _, _, n + 1, .cons a b => .cons a (VRs.erase n b)
theorem VRs.at {g : G} {H : Hp} {μ : List Addr} : ∀ {vs : List V} {ds : List D} {n : Nat} {d : D}, VRs g H μ vs ds → ds[n]? = some d → ∃ v, vs[n]? = some v ∧ VR g H μ v d
  | _, _, n, d, .nil, e => by simp at e
  | _, _, 0, d, .cons a b, e => by simp at e; subst e; exact ⟨_, rfl, a⟩
  | _, _, n + 1, d, .cons a b, e => by
    obtain ⟨v, h1, h2⟩ := VRs.at (n := n) b (by simpa using e)
    exact ⟨v, by simpa using h1, h2⟩
def dInsert : D → List D → MH → R D
  | .ref i, [.int k, d], h => match h[i]? with
    | some (.lst l) => if (0 ≤ k ∧ k < 9223372036854775808) ∧ l.length < 1000000 then .ok .non (h.set i (.lst (l.take k.toNat ++ [d] ++ l.drop k.toNat))) else .bad
    | _ => .bad
  | _, _, _ => .bad
def dPopI : D → List D → MH → R D
  | .ref i, [.int k], h => match h[i]? with
    | some (.lst l) => if 0 ≤ k ∧ k < 9223372036854775808 then match l[k.toNat]? with
      | some d => .ok d (h.set i (.lst (l.eraseIdx k.toNat)))
      | none => .bad else .bad
    | _ => .bad
  | _, _, _ => .bad
/-! ### the calculus -/
end Mi

/-! t[::-1], a tuple or a list. -/
namespace PySem.W
open PySem.Calls PyProof.Rows HT
end PySem.W
namespace Mi
open PySem L2 PySem.Spec PyProof.Rows PySem.W HT
section
variable {prog : Program} {w : World} {A : Around} {E : Value → Shared → Prop} {s : Shared}
end
def tRevT (K : PySem.W.Frag) (te : TE) : TE := fun σ H Q => te σ H fun x H1 => ∃ a xs, x = .ref a ∧ SqT K H1 a xs ∧ ∀ (p : Addr) (ob : Obj), H1 p = none → ob.dict = none → Q (.ref p) (upd H1 p (.frz ob (.tup xs.reverse)))
def dRevA (x : D) (h : MH) : R D := match x with
  | .tup l => .ok (.tup l.reverse) h
  | x => dRevL x h
def mRevA (a : ME) : ME := mUn dRevA a
end Mi
namespace Mi
open PySem L2
def m_Grower___init___c_31163 : List D → MH → R D := mFun 1 1
 (mSeq (mSetFld [(Str.ofString "PairGrower")] (Str.ofString "numbers") (mVar 0) (mDict0))
 (mSetFld [(Str.ofString "PairGrower")] (Str.ofString "states") (mVar 0) (mLst (mNil))))
def m_PairGrower___init___06085 : List D → MH → R D := mFun 3 3
 (mSeq (mDrop (mCall (m_Grower___init___c_31163) (mCons (mVar 0) (mNil))))
 (mSeq (mSetFld [(Str.ofString "PairGrower")] (Str.ofString "one") (mVar 0) (mVar 1))
 (mSetFld [(Str.ofString "PairGrower")] (Str.ofString "other") (mVar 0) (mVar 2))))
def m_all_names_5befd : List D → MH → R D := mFun 2 2
 (mRet (mCall dSortSet (mCons (mBin dAdd (mCall dList (mCons (mVar 0) (mNil))) (mCall dList (mCons (mVar 1) (mNil)))) mNil)))
def m_PairGrower_number_cc1e1 : List D → MH → R D := mFun 2 2
 (mSeq (mIf (mB (mBin dANotIn (mVar 1) (mFld [(Str.ofString "PairGrower")] (Str.ofString "numbers") (mVar 0))))
 (mSeq (mIf (mB (mBin dEq (mCall dLen (mCons (mFld [(Str.ofString "PairGrower")] (Str.ofString "states") (mVar 0)) (mNil))) (mC (.int 64))))
 (mRaise0 (Str.ofString "TooMany"))
 (mSkip))
 (mSeq (mASet (mFld [(Str.ofString "PairGrower")] (Str.ofString "numbers") (mVar 0)) (mVar 1) (mCall dLen (mCons (mFld [(Str.ofString "PairGrower")] (Str.ofString "states") (mVar 0)) (mNil))))
 (mDrop (mMeth isListD dAppend (mFld [(Str.ofString "PairGrower")] (Str.ofString "states") (mVar 0)) (mCons (mVar 1) (mNil))))))
 (mSkip))
 (mRet (mBin dAIx (mFld [(Str.ofString "PairGrower")] (Str.ofString "numbers") (mVar 0)) (mVar 1))))
def m_PairGrower_step_cba85 : List D → MH → R D := mFun 3 3
 (mRet (mTup (mCons (mBin dIx (mBin dIx (mBin dIx (mFld [(Str.ofString "PairGrower")] (Str.ofString "one") (mVar 0)) (mC (.int 3))) (mBin dIx (mVar 1) (mC (.int 0)))) (mBin dIx (mVar 2) (mC (.int 0)))) (mCons (mBin dIx (mBin dIx (mBin dIx (mFld [(Str.ofString "PairGrower")] (Str.ofString "other") (mVar 0)) (mC (.int 3))) (mBin dIx (mVar 1) (mC (.int 1)))) (mBin dIx (mVar 2) (mC (.int 1)))) (mNil)))))
def m_PairGrower_tables_dba21 : List D → MH → R D := mFun 2 9
 (mSeq (mAsg 2 (mCall dTuple (mCons (mLc (mIter (mVar 1)) (mgName 8) (mYes) (mMethI (Str.ofString "number") [((Str.ofString "PairGrower"), (m_PairGrower_number_cc1e1))] (mVar 0) (mCons (mVar 8) (mNil))) [8]) (mNil))))
 (mSeq (mAsg 3 (mDict0))
 (mSeq (mAsg 4 (mC (.int 0)))
 (mSeq (mWhile 1000 (mB (mBin dLt (mVar 4) (mCall dLen (mCons (mFld [(Str.ofString "PairGrower")] (Str.ofString "states") (mVar 0)) (mNil)))))
 (mSeq (mFor (mRange1 (mBin dAdd (mVar 4) (mC (.int 1)))) (mgName 7)
 (mSeq (mASet (mVar 3) (mTup (mCons (mVar 4) (mCons (mVar 7) (mNil)))) (mMethI (Str.ofString "number") [((Str.ofString "PairGrower"), (m_PairGrower_number_cc1e1))] (mVar 0) (mCons (mMethI (Str.ofString "step") [((Str.ofString "PairGrower"), (m_PairGrower_step_cba85))] (mVar 0) (mCons (mBin dIx (mFld [(Str.ofString "PairGrower")] (Str.ofString "states") (mVar 0)) (mVar 4)) (mCons (mBin dIx (mFld [(Str.ofString "PairGrower")] (Str.ofString "states") (mVar 0)) (mVar 7)) (mNil)))) (mNil))))
 (mASet (mVar 3) (mTup (mCons (mVar 7) (mCons (mVar 4) (mNil)))) (mMethI (Str.ofString "number") [((Str.ofString "PairGrower"), (m_PairGrower_number_cc1e1))] (mVar 0) (mCons (mMethI (Str.ofString "step") [((Str.ofString "PairGrower"), (m_PairGrower_step_cba85))] (mVar 0) (mCons (mBin dIx (mFld [(Str.ofString "PairGrower")] (Str.ofString "states") (mVar 0)) (mVar 7)) (mCons (mBin dIx (mFld [(Str.ofString "PairGrower")] (Str.ofString "states") (mVar 0)) (mVar 4)) (mNil)))) (mNil))))))
 (mAsg 4 (mBin dAdd (mVar 4) (mC (.int 1))))))
 (mSeq (mAsg 5 (mCall dLen (mCons (mFld [(Str.ofString "PairGrower")] (Str.ofString "states") (mVar 0)) (mNil))))
 (mSeq (mAsg 6 (mLc (mRange1 (mVar 5)) (mgName 4) (mYes) (mCall dTuple (mCons (mLc (mRange1 (mVar 5)) (mgName 7) (mYes) (mBin dAIx (mVar 3) (mTup (mCons (mVar 4) (mCons (mVar 7) (mNil))))) [7]) (mNil))) [4]))
 (mRet (mTup (mCons (mVar 2) (mCons (mCall dTuple (mCons (mVar 6) (mNil))) (mNil)))))))))))
def m_pairs_of_cf4b8 : List D → MH → R D := mFun 2 8
 (mSeq (mAsg 2 (mNew (Str.ofString "PairGrower") (m_PairGrower___init___06085) (mCons (mVar 0) (mCons (mVar 1) (mNil)))))
 (mSeq (mAsg 3 (mCall (m_all_names_5befd) (mCons (mBin dIx (mVar 0) (mC (.int 1))) (mCons (mBin dIx (mVar 1) (mC (.int 1))) (mNil)))))
 (mSeq (mAsg 4 (mLc (mIter (mVar 3)) (mgName 7) (mYes) (mTup (mCons (mCall (m_start_of_78275) (mCons (mVar 0) (mCons (mVar 7) (mNil)))) (mCons (mCall (m_start_of_78275) (mCons (mVar 1) (mCons (mVar 7) (mNil)))) (mNil)))) [7]))
 (mSeq (mDrop (mMeth isListD dAppend (mVar 4) (mCons (mTup (mCons (mBin dIx (mBin dIx (mVar 0) (mC (.int 2))) (mUn dNeg (mC (.int 1)))) (mCons (mBin dIx (mBin dIx (mVar 1) (mC (.int 2))) (mUn dNeg (mC (.int 1)))) (mNil)))) (mNil))))
 (mSeq (mAsgT (mgTup (mgCons (mgName 5) (mgCons (mgName 6) (mgNil)))) (mMethI (Str.ofString "tables") [((Str.ofString "PairGrower"), (m_PairGrower_tables_dba21))] (mVar 2) (mCons (mVar 4) (mNil))))
 (mRet (mTup (mCons (mCall dTuple (mCons (mVar 3) (mNil))) (mCons (mVar 5) (mCons (mVar 6) (mCons (mCall dTuple (mCons (mFld [(Str.ofString "PairGrower")] (Str.ofString "states") (mVar 2)) (mNil))) (mNil))))))))))))
end Mi
namespace Mi
open PySem L2
def m_has_bit_05807 : List D → MH → R D := mFun 3 3
 (mRet (mBin dNe (mBin dBand (mBin dIx (mBin dIx (mVar 0) (mC (.int 4))) (mVar 1)) (mVar 2)) (mC (.int 0))))
end Mi

/-! A comprehension over a dict's keys (the dict is locked as long as it runs); sorted and min of a list of pairs of whole numbers; sorted of a tuple of texts. -/
namespace Mi
open PySem L2 PySem.Spec PyProof.Rows
/-! ### what stands on when a locked thing is free again -/
structure Mn (g : G) (H H' : Hp) (μ μ' : List Addr) : Prop where
  pre : μ <+: μ'
  tups : ∀ p xs, Tk g.K H p xs → Tk g.K H' p xs
  xs : ∀ p u, isX p u → H p = some u → H' p = some u
section
variable {g : G} {H H1 : Hp} {μ μ1 : List Addr}
mutual
theorem VR.mn (m : Mn g H H1 μ μ1) : ∀ {v : V} {d : D}, VR g H μ v d → VR g H1 μ1 v d
  | _, _, .non => .non
  | _, _, .bl b => .bl b
  | _, _, .int i => .int i
  | _, _, .str x => .str x
  | _, _, .ref h => .ref (by
      obtain ⟨t, e⟩ := m.pre
      rw [← e, List.getElem?_append_left (List.getElem?_eq_some_iff.mp h).1]
      exact h)
  | _, _, .tup h hs => .tup (m.tups _ _ h) (VRs.mn m hs)
  | _, _, .xo h c f v => .xo (m.xs _ _ (.inl ⟨_, _, rfl⟩) h) c (by
      rcases f with f | ⟨dd, fv, e1, e2, e3⟩
      · exact .inl f
      · exact .inr ⟨dd, fv, e1, m.xs _ _ (.inr ⟨_, rfl⟩) e2, e3⟩) (VR.mn m v)
theorem VRs.mn (m : Mn g H H1 μ μ1) : ∀ {vs : List V} {ds : List D}, VRs g H μ vs ds → VRs g H1 μ1 vs ds
  | _, _, .nil => .nil
  | _, _, .cons a b => .cons (VR.mn m a) (VRs.mn m b)
end
theorem KR.mn {κ : Type} (m : Mn g H H1 μ μ1) : ∀ {vs : List (κ × V)} {ds : List (κ × D)}, KR g H μ vs ds → KR g H1 μ1 vs ds
  | _, _, .nil => .nil
  | _, _, .cons a b => .cons (a.mn m) (KR.mn m b)
theorem NR.mn (m : Mn g H H1 μ μ1) : ∀ {xs : List (NestedKey × Addr × Value)} {ds : List (NestedKey × D)}, NR g H μ xs ds → NR g H1 μ1 xs ds
  | _, _, .nil => .nil
  | _, _, .cons a e l r v b => .cons (a.mn m) e l r (v.mn m) (NR.mn m b)
theorem TR.mn (m : Mn g H H1 μ μ1) : ∀ {xs : List (NestedKey × Addr × Value)} {ds : List (D × D)}, TR g H μ xs ds → TR g H1 μ1 xs ds
  | _, _, .nil => .nil
  | _, _, .cons a e l r v b => .cons (a.mn m) e l r (v.mn m) (TR.mn m b)
theorem OR.mn_at {p : Addr} {o : MO} (m : Mn g H H1 μ μ1) (k : ∀ u, H p = some u → H1 p = some u) (h : OR g H μ p o) : OR g H1 μ1 p o := by
  cases o with
  | lst ds => obtain ⟨xs, a, b⟩ := h; exact ⟨xs, k _ a, b.mn m⟩
  | rol ds =>
    obtain ⟨xs, a, b⟩ := h
    refine ⟨xs, ?_, b.mn m⟩
    rcases a with ⟨u, a⟩ | a
    · exact .inl ⟨u, k _ a⟩
    · exact .inr a
  | dK kvs => obtain ⟨xs, a, b⟩ := h; exact ⟨xs, k _ a, b.mn m⟩
  | ins c fs => obtain ⟨C, dx, xs, a, c', b⟩ := h; exact ⟨C, dx, xs, k _ a, c', b.mn m⟩
  | dN kvs => obtain ⟨xs, a, b⟩ := h; exact ⟨xs, k _ a, b.mn m⟩
  | fK kvs => obtain ⟨u, xs, a, b⟩ := h; exact ⟨u, xs, k _ a, b.mn m⟩
  | dT kvs => obtain ⟨xs, a, b⟩ := h; exact ⟨xs, k _ a, b.mn m⟩
/-- a locked dict is free again -/
theorem HR.free {h : MH} {i : Nat} {p : Addr} {od : Obj} {kv : List (Key × V)} {l : List (Key × D)} (r : HR g H μ h) (hi : μ[i]? = some p) (hw : h[i]? = some (.fK l)) (hp : H p = some (.frz od (.dK kv))) (m : Mn g H (upd H p (.dK kv)) μ μ) : HR g (upd H p (.dK kv)) μ (h.set i (.dK l)) := by
  have hlt : i < h.length := (List.getElem?_eq_some_iff.mp hw).1
  refine ⟨by rw [List.length_set]; exact r.len, fun j q v hj hv => ?_, fun j k q v x hj hk hv hx m1 m2 => ?_⟩
  · by_cases e : i = j
    · subst e
      rw [List.getElem?_set_self hlt] at hv
      rw [hi] at hj
      cases hj; cases hv
      obtain ⟨o', kv', e1, kr⟩ := r.ob i p _ hi hw
      rw [hp] at e1
      cases e1
      exact ⟨kv, upd_same, kr.mn m⟩
    · rw [List.getElem?_set_ne e] at hv
      have old := r.ob j q v hj hv
      by_cases eq : q = p
      · subst eq
        cases mv : isMut v with
        | true => exact absurd (r.nd i j q _ v hi hj hw hv rfl mv) e
        | false =>
          cases v with
          | rol ds =>
            obtain ⟨xs, a, b⟩ := old
            refine ⟨xs, ?_, b.mn m⟩
            rcases a with ⟨u', a⟩ | a
            · rw [hp] at a; cases a
            · exact .inr a
          | lst ds => cases mv
          | dK kvs => cases mv
          | ins c fs => cases mv
          | dN kvs => cases mv
          | fK kvs => cases mv
          | dT kvs => cases mv
      · exact old.mn_at m fun u eu => by rw [upd_ne eq]; exact eu
  · have key : ∀ (j : Nat) (v : MO), (h.set i (.dK l))[j]? = some v → isMut v = true → ∃ v', h[j]? = some v' ∧ isMut v' = true := fun j v hv mv => by
      by_cases e : i = j
      · subst e; exact ⟨_, hw, rfl⟩
      · rw [List.getElem?_set_ne e] at hv; exact ⟨v, hv, mv⟩
    obtain ⟨v', hv', mv'⟩ := key j v hv m1
    obtain ⟨x', hx', mx'⟩ := key k x hx m2
    exact r.nd j k q v' x' hj hk hv' hx' mv' mx'
end
/-! ### the lock -/
def mLock (k : Nat) (m : ME) : ME := fun ρ h => match ρ[k]? with
  | some (some (.ref i)) => match h[i]? with
    | some (.dK l) => (m ρ (h.set i (.fK l))).bind fun y h' => match h'[i]? with
      | some (.fK l') => .ok y (h'.set i (.dK l'))
      | _ => .bad
    | _ => .bad
  | _ => .bad
theorem sr_at {g : G} {H : Hp} {μ : List Addr} : ∀ {σ : List (Option V)} {ρ : Slots} {k : Nat} {d : D}, SR g H μ σ ρ → ρ[k]? = some (some d) → ∃ v, σ[k]? = some (some v) ∧ VR g H μ v d
  | _, _, _, _, .nil, e => by simp at e
  | _, _, 0, _, .no _, e => by simp at e
  | _, _, 0, _, .yes a _, e => by simp at e; subst e; exact ⟨_, rfl, a⟩
  | _, _, k + 1, _, .no b, e => by
    obtain ⟨v, h1, h2⟩ := sr_at (k := k) b (by simpa using e)
    exact ⟨v, by simpa using h1, h2⟩
  | _, _, k + 1, _, .yes _ b, e => by
    obtain ⟨v, h1, h2⟩ := sr_at (k := k) b (by simpa using e)
    exact ⟨v, by simpa using h1, h2⟩
section
variable {X : Cx} {g : G} {W : WX} {e : Expr} {m : ME}
theorem se_lock {k : Nat} (he : PE X e (tE g W m)) : PE X e (tE g W (mLock k m)) :=
  pe_mono (pe_lock he) fun σ H Q ⟨ρ, h, μ, sr, hr, bk⟩ => by
    unfold mLock at bk
    split at bk
    · rename_i i e1
      split at bk
      · rename_i l q
        obtain ⟨v, _, vr⟩ := sr_at sr e1
        cases vr with
        | @ref p _ hi =>
          obtain ⟨kv, hp, kr⟩ := hr.ob i p _ hi q
          refine ⟨p, .dK kv, hp, trivial, fun od => ?_⟩
          have s : Saf H p := Saf.dK hp
          have m1 : Mon g H (upd H p (.frz od (.dK kv))) μ μ := s.mon
          have hr1 : HR g (upd H p (.frz od (.dK kv))) μ (h.set i (.fK l)) := hr.write (u := .fK l) hi q rfl s rfl ⟨od, kv, upd_same, kr.mono m1⟩
          refine ⟨ρ, _, μ, sr.mono m1, hr1, ?_⟩
          cases er : m ρ (h.set i (.fK l)) with
          | bad => rw [er] at bk; exact bk.elim
          | exc x fs h' =>
            rw [er] at bk
            exact Bk.mono m1 bk
          | ok y h' =>
            rw [er] at bk
            replace bk : Bk (VR g) g H μ (match h'[i]? with
              | some (.fK l') => Mi.R.ok y (h'.set i (.dK l'))
              | _ => .bad) Q _ := bk
            split at bk
            · rename_i l' q2
              intro u H2 μ2 m2 hr2 vu
              have hp2 : H2 p = some (.frz od (.dK kv)) := m2.fz p od _ upd_same
              have hi2 := m2.ix hi
              have np : ∀ a, (∀ o x, a ≠ HO.frz o x) → H2 p ≠ some a := fun a ha z => by rw [hp2] at z; cases z; exact ha _ _ rfl
              have mn : Mn g H2 (upd H2 p (.dK kv)) μ2 μ2 := ⟨List.prefix_rfl, fun a xs t => by
                rcases t with ⟨ob, h1, h2⟩ | t
                · refine .inl ⟨ob, h1, ?_⟩
                  rw [upd_ne]
                  · exact h2
                  · rintro rfl; rw [hp2] at h2; cases h2
                · exact .inr t, fun a u x h2 => by
                rw [upd_ne]
                · exact h2
                · rintro rfl
                  rcases x with ⟨_, _, x⟩ | ⟨_, x⟩
                  · subst x; rw [hp2] at h2; cases h2
                  · subst x; rw [hp2] at h2; cases h2⟩
              refine ⟨hp2, bk u (upd H2 p (.dK kv)) μ2 ⟨m2.pre, fun a xs t => mn.tups a xs (m2.tups a xs (m1.tups a xs t)), fun a u x h2 => mn.xs a u x (m2.xs a u x (m1.xs a u x h2)), fun a w v h2 => ?_⟩ (hr2.free hi2 q2 hp2 mn) (vu.mn mn)⟩
              have na : a ≠ p := by rintro rfl; rw [hp] at h2; cases h2
              rw [upd_ne na]
              exact m2.fz a w v (m1.fz a w v h2)
            · exact bk.elim
      · exact bk.elim
    · exact bk.elim
/-! ### its keys -/
def kD : Key → D
  | .inl i => .int i
  | .inr x => .str x
def mKeysF (ma : ME) : MI := fun ρ h => (ma ρ h).bind fun x h1 => match x with
  | .ref i => match h1[i]? with
    | some (.fK l) => .ok (l.map (fun p => kD p.1), yes) h1
    | _ => .bad
  | _ => .bad
theorem kr_keys31 {H : Hp} {μ : List Addr} : ∀ {kv : List (Key × V)} {l : List (Key × D)}, KR g H μ kv l → kv.map (·.1) = l.map (·.1)
  | _, _, .nil => rfl
  | _, _, .cons _ b => by rw [List.map_cons, List.map_cons, kr_keys31 b]
theorem jr_keysF {H : Hp} {μ : List Addr} {p : Addr} {o : Obj} {kv : List (Key × V)} {l : List (Key × D)} (hp : H p = some (.frz o (.dK kv))) (kr : KR g H μ kv l) : JR g H μ (Itk p o kv) (l.map (fun p => kD p.1), yes) := by
  intro i H' μ' h' mm hr _
  have hk := kr_keys31 kr
  have hl : kv.length = l.length := by have := congrArg List.length hk; simpa using this
  refine ⟨fun lt => ⟨⟨mm.fz _ _ _ hp, by simp at lt; omega⟩, ?_⟩, fun le => ⟨mm.fz _ _ _ hp, by simp at le; omega⟩⟩
  rintro x H'' ⟨rfl, k, v, ek, rfl⟩
  have e1 : (l.map (·.1))[i]? = some k := by rw [← hk, List.getElem?_map, ek]; rfl
  rw [List.getElem?_map, Option.map_eq_some_iff] at e1
  obtain ⟨q, eq, rfl⟩ := e1
  refine ⟨kD q.1, by rw [List.getElem?_map, eq]; rfl, Mon.refl, hr, ?_⟩
  cases q.1 with
  | inl z => exact .int z
  | inr z => exact .str z
theorem si_keysF {tg : Expr} {ma : ME} (he : PE X e (tE g W ma)) : PI X tg e (tI g W (mKeysF ma)) :=
  pi_mono (pi_keys he) fun σ H R ⟨ρ, h, μ, sr, hr, bk⟩ => by
    refine ⟨ρ, h, μ, sr, hr, Bk.bind bk fun d h1 x H1 μ1 e m hr1 vx bk1 => ?_⟩
    cases vx with
    | @ref p i hi =>
      replace bk1 : Bk (JR g) g H1 μ1 (match h1[i]? with
        | some (.fK l) => Mi.R.ok (l.map (fun p => kD p.1), yes) h1
        | _ => .bad) R _ := bk1
      split at bk1
      · rename_i l q
        obtain ⟨o, kv, hp, kr⟩ := hr1.ob i p _ hi q
        exact ⟨p, o, rfl, .inl ⟨kv, hp, bk1 _ H1 μ1 Mon.refl hr1 (jr_keysF hp kr)⟩⟩
      · exact bk1.elim
    | _ => exact bk1.elim
end
end Mi
namespace Mi
open PySem L2 PySem.Spec PyProof.Rows
def leP (p q : Int × Int) : Bool := decide (p.1 < q.1 ∨ (p.1 = q.1 ∧ p.2 ≤ q.2))
def sortP (l : List (Int × Int)) : List (Int × Int) := l.mergeSort leP
def pairD (p : Int × Int) : D := .tup [.int p.1, .int p.2]
def allPair : List D → Option (List (Int × Int))
  | [] => some []
  | .tup [.int a, .int b] :: l => (allPair l).map ((a, b) :: ·)
  | _ => none
def encP (b : Int × Int) : PyData := .tuple [.int b.1, .int b.2]
def PairV (K : PySem.W.Frag) (H : Hp) (x : V) (b : Int × Int) : Prop := ∃ q, x = .ref q ∧ Tk K H q [.int b.1, .int b.2]
abbrev PairsV (K : PySem.W.Frag) (H : Hp) : List V → List (Int × Int) → Prop := PySem.W.EachIs (PairV K H)
def rSortP (K : PySem.W.Frag) : List V → Hp → VK → Prop := fun xs H Q => ∃ p ys bs, xs = [V.ref p] ∧ SqL K H p ys ∧ PairsV K H ys bs ∧ ∀ zs r, PairsV K H zs (sortP bs) → H r = none → Q (.ref r) (upd H r (.lst zs))
theorem each_pairs {K : PySem.W.Frag} {H : Hp} : ∀ {ys : List V} {its : List Value} {bs : List (Int × Int)}, Vals ys its → PairsV K H ys bs → PySem.W.EachIs (fun v b => ∃ x, RelV x v ∧ PairV K H x b) its bs
  | _, _, _, .nil, .nil => .nil
  | _, _, _, .cons a r, .cons c t => .cons ⟨_, a, c⟩ (each_pairs r t)
theorem pairs_each {K : PySem.W.Frag} {H : Hp} : ∀ {out : List Value} {bs : List (Int × Int)}, PySem.W.EachIs (fun v b => ∃ x, RelV x v ∧ PairV K H x b) out bs → ∃ zs, Vals zs out ∧ PairsV K H zs bs
  | _, _, .nil => ⟨[], .nil, .nil⟩
  | _, _, .cons h t => by
    obtain ⟨x, a, c⟩ := h
    obtain ⟨zs, r, t⟩ := pairs_each t
    exact ⟨x :: zs, .cons a r, .cons c t⟩
theorem pairsV_len {K : PySem.W.Frag} {H : Hp} : ∀ {zs : List V} {bs : List (Int × Int)}, PairsV K H zs bs → zs.length = bs.length
  | _, _, .nil => rfl
  | _, _, .cons _ t => by rw [List.length_cons, List.length_cons, pairsV_len t]
theorem sort_ii (bs : List (Int × Int)) : bs.mergeSort (PySem.W.dataLe false encP) = sortP bs := by
  have : PySem.W.dataLe false encP = leP := PySem.W.dataLe_ii (fun b : Int × Int => b.1) (fun b => b.2)
  rw [this]
  rfl
section
variable {X : Cx} {pins : List (Addr × Obj)} {σ : L2.St} {H : Hp} {s : Shared}
theorem reads_pair (I : L2.Inv X pins σ H s) {v : Value} {x : V} {b : Int × Int} (rx : RelV x v) (hx : PairV X.K H x b) : Reads s.heap v (encP b) [] := by
  obtain ⟨q, rfl, tk⟩ := hx
  obtain rfl : v = Value.ref q := rx
  obtain ⟨ws, rv, ⟨o, ho, hcl, n, hd⟩, _⟩ := I.tuple tk.sq
  obtain ⟨u1, u2, rfl, ri, rj⟩ := vals2 rv
  obtain ⟨t1, rfl⟩ := ri
  obtain ⟨t2, rfl⟩ := rj
  exact .tuple ho hcl hd (.cons (.int _ _) (.cons (.int _ _) .nil))
theorem cr_sortP (hu : X.A.units + 65 < cLine) : CallR X (.builtin "sorted") (rSortP X.K) := by
  intro pins s σ H xs us Q I rr hh
  obtain ⟨p, ys, bs, rfl, hs, hp, q⟩ := hh
  obtain ⟨its, rv, pl, zl⟩ := I.list hs
  obtain ⟨u, rfl, ru⟩ := vals1 rr
  obtain rfl : u = Value.ref p := ru
  have e := each_pairs rv hp
  have hlen := pairsV_len hp
  refine PySem.W.sorted_data (vs := its) (bs := bs) (enc := encP) (R := fun v b => ∃ x, RelV x v ∧ PairV X.K H x b) pl.isList e (e.mono fun v b ⟨x, a, c⟩ => ⟨[], reads_pair I a c⟩) (PySem.W.AllAlike.of fun _ _ => rfl) (PySem.W.Sortable.tuples fun b => ⟨_, _, rfl⟩) (by rw [← hlen]; exact zl) (fun b _ => ?_) fun out ho hR => ?_
  · have : (encP b).depth ≤ 1 := by unfold encP; simp [PyData.depth, PyData.depthAll]
    omega
  · rw [sort_ii] at hR
    obtain ⟨zs, vz, pz⟩ := pairs_each hR
    obtain ⟨ep, he⟩ := PyProof.Rows.sortedAll_at s.heap its out.toArray
    refine ⟨.ref _, upd H (s.heap.objs.size + 1) (.lst zs), I.laid (t' := s.toks) (fun _ _ => PyProof.Rows.sortedAll_old) (Nat.le_succ _) ⟨?_, out, ep, vz, he⟩, rfl, q _ _ pz (I.hok.fresh (Nat.le_succ _))⟩
    rw [vz.length, ho, ← hlen]
    exact zl
end
def dSortP : List D → MH → R D
  | [x], h => match x with
    | .ref i => match getL h i with
      | some l => match allPair l with
        | some ps => .ok (.ref h.length) (h ++ [.lst ((sortP ps).map pairD)])
        | none => .bad
      | none => .bad
    | _ => .bad
  | _, _ => .bad
theorem pairsV_of {g : G} {H : Hp} {μ : List Addr} : ∀ {l : List D} {xs : List V} {ps : List (Int × Int)}, VRs g H μ xs l → allPair l = some ps → PairsV g.K H xs ps
  | [], _, _, .nil, e => by cases e; exact .nil
  | d :: l, _, ps, .cons a b, e => by
    unfold allPair at e
    split at e
    · rename_i e0; cases e0
    · rename_i i j l' e0
      cases e0
      rw [Option.map_eq_some_iff] at e
      obtain ⟨r, e, rfl⟩ := e
      cases a with
      | tup tk vs =>
        cases vs with
        | cons v1 vs =>
          cases vs with
          | cons v2 vs =>
            cases vs
            cases v1
            cases v2
            exact .cons ⟨_, rfl, tk⟩ (pairsV_of b e)
    · cases e
theorem vrs_pairs {g : G} {H : Hp} {μ : List Addr} : ∀ {zs : List V} {cs : List (Int × Int)}, PairsV g.K H zs cs → VRs g H μ zs (cs.map pairD)
  | _, _, .nil => .nil
  | _, _, .cons h t => by
    obtain ⟨q, rfl, tk⟩ := h
    exact .cons (.tup tk (.cons (.int _) (.cons (.int _) .nil))) (vrs_pairs t)
theorem sn_sortP {g : G} : SN g (rSortP g.K) dSortP := sn1 (fun H μ h x a Q W hr va bk => by
  cases va with
  | @ref p i hi =>
    simp only [dSortP] at bk
    split at bk
    · rename_i l e1
      split at bk
      · rename_i ps e2
        obtain ⟨xs, hs, vs⟩ := hr.list hi e1
        exact ⟨p, xs, ps, rfl, hs, pairsV_of vs e2, fun zs r h1 h3 => bk.newL hr (vrs_pairs h1) h3⟩
      · exact bk.elim
    · exact bk.elim
  | _ => exact bk.elim) (fun _ => rfl) (fun a b l h => by simp [dSortP])
/-! ### sorted of a tuple of texts -/
def rSortTu (K : PySem.W.Frag) : List V → Hp → VK → Prop := fun xs H Q => ∃ p ys, xs = [V.ref p] ∧ SqT K H p (ys.map V.str) ∧ ∀ r, H r = none → Q (.ref r) (upd H r (.lst ((sortS ys).map V.str)))
def dSortTu : List D → MH → R D
  | [x], h => match x with
    | .tup l => match allStr l with
      | some ys => .ok (.ref h.length) (h ++ [.lst ((sortS ys).map .str)])
      | none => .bad
    | _ => .bad
  | _, _ => .bad
end Mi

/-! tuple.index of a whole number. -/
namespace Mi
open PySem L2 PySem.Spec PyProof.Rows
theorem ints_are33 : ∀ {ys : List Int} {us : List Value}, Vals (ys.map V.int) us → IntsAre us ys
  | [], _, .nil => .nil
  | y :: ys, _, .cons r t => by
    obtain ⟨k, rfl⟩ := r
    exact .cons y k (ints_are33 t)
section
variable {X : Cx} {g : G} {W : WX} {a b : Expr} {ma mb : ME} {pos : Pos}
theorem mt_tup_indexI : MtR X "tuple.index" (fun x xs H Q => ∃ p, ∃ ns : List Int, ∃ k, x = .ref p ∧ xs = [.int k] ∧ SqT X.K H p (ns.map V.int) ∧ k ∈ ns ∧ Q (.int (ns.idxOf k : Nat)) H) := by
  intro pins s σ H x xs v us Q I rx rs h
  obtain ⟨p, ns, k, rfl, rfl, hq, hk, q⟩ := h
  cases rx
  obtain ⟨u, rfl, t, rfl⟩ := vals1 rs
  obtain ⟨its, r, pl, hz⟩ := I.tuple hq
  exact PySem.SeqAt.tuple_index_ints (show s.heap.IsTuple p its.toArray from pl) (ints_are33 r) hk ⟨.int _, H, I.tok _, ⟨_, rfl⟩, q⟩
def dTIdxI (x y : D) (h : MH) : R D := match x, y with
  | .tup l, .int k => match allInt l with
    | some ns => if k ∈ ns then .ok (.int (ns.idxOf k : Nat)) h else .bad
    | none => .bad
  | _, _ => .bad
def mTIndexI (a b : ME) : ME := fun ρ h => (a ρ h).bind fun x h1 => match x with
  | .tup l => (b ρ h1).bind fun y h2 => dTIdxI (.tup l) y h2
  | _ => .bad
theorem se_tindexI {apos : Pos} (ha : PE X a (tE g W ma)) (hb : PE X b (tE g W mb)) (hK : X.K = g.K := by rfl)
    (hbase : attributeBase a "index" X.env (eval a X.env) = eval a X.env := by rfl)
    (hfew : ((backTo pos (starEach [b] X.env)).all (fun x => !x.1) && (backToKw pos (keywordEach [] X.env)).all (fun x => x.1.isSome)
      && decide (([b] : List Expr).length + ([] : List Keyword).length + (if ([] : List Keyword).isEmpty then 0 else 1) < 30)) = true := by rfl)
    (hline : (apos.endLine == pos.line) = true := by rfl) (hs : starEach [b] X.env = (false, eval b X.env) :: starEach [] X.env := by rfl) (hplain : (backTo pos (starEach [] X.env)).any (·.1) = false := by rfl) :
    PE X (.Call (.Attribute a "index" apos) [b] [] pos) (tE g W (mTIndexI ma mb)) :=
  pe_mono (pe_tidx mt_tup_indexI ha (pa_cons hb pa_nil hs) hbase hfew hline hs hplain) fun σ H Q ⟨ρ, h, μ, sr, hr, bk⟩ => step (rel := VR) (rel' := VR) (ma := ma) (Q' := Q) sr hr bk fun x d h1 H1 μ1 m1 sr1 hr1 vx bk1 => by
    cases vx with
    | @tup p xs l hs vs =>
      refine ⟨⟨p, xs, rfl, by rw [hK]; exact hs⟩, ?_⟩
      refine step (rel := VR) (rel' := VR) (ma := mb) (Q' := Q) sr1 hr1 bk1 fun y d2 h2 H2 μ2 m2 sr2 hr2 vy bk2 => ?_
      cases vy with
      | int k =>
        simp only [dTIdxI] at bk2
        split at bk2
        · rename_i ns e1
          split at bk2
          · rename_i hk
            refine ⟨p, ns, k, rfl, rfl, ?_, hk, bk2.val hr2 (.int _)⟩
            rw [← ints_of vs e1, hK]
            exact (m2.tups _ _ hs).sq
          · exact bk2.elim
        · exact bk2.elim
      | _ => exact bk2.elim
    | _ => exact bk1.elim
end
theorem allInt_map33 : ∀ l : List Int, allInt (l.map .int) = some l
  | [] => rfl
  | x :: l => by rw [List.map_cons]; show (allInt (l.map .int)).map (x :: ·) = _; rw [allInt_map33 l]; rfl
theorem allPair_map : ∀ l : List (Int × Int), allPair (l.map pairD) = some l
  | [] => rfl
  | x :: l => by rw [List.map_cons]; show (allPair (l.map pairD)).map (x :: ·) = _; rw [allPair_map l]; rfl
/-! the calculus -/
section
variable {Q : D → MH → Prop} {E : XE} {h : MH} {ρ : Slots}
theorem w_tindexI {a b : ME} {l : List Int} {k : Int} {h1 h2 : MH} (ea : a ρ h = .ok (.tup (l.map .int)) h1) (eb : b ρ h1 = .ok (.int k) h2) (hk : k ∈ l) (q : Q (.int (l.idxOf k : Nat)) h2) : Sat (mTIndexI a b ρ h) Q E := w_eq (by
  unfold mTIndexI
  rw [ea]
  show (b ρ h1).bind _ = _
  rw [eb, R.bind_ok]
  show dTIdxI (.tup (l.map .int)) (.int k) h2 = _
  simp only [dTIdxI, allInt_map33, hk, if_true]) q
theorem w_sortP {i : Nat} {l : List (Int × Int)} (e : getL h i = some (l.map pairD)) (q : Q (.ref h.length) (h ++ [.lst ((sortP l).map pairD)])) : Sat (dSortP [.ref i] h) Q E := w_eq (by simp only [dSortP, e, allPair_map]) q
theorem w_lock {k i : Nat} {m : ME} {l : List (Key × D)} (e : ρ[k]? = some (some (.ref i))) (c : h[i]? = some (.dK l)) (s : Sat (m ρ (h.set i (.fK l))) (fun y h' => h'[i]? = some (.fK l) ∧ Q y (h'.set i (.dK l))) E) : Sat (mLock k m ρ h) Q E := by
  unfold mLock
  rw [e]
  simp only
  rw [c]
  refine Sat.bnd (s.monoE ?_ fun _ _ _ z => z)
  rintro y h' ⟨e1, q⟩
  rw [e1]
  exact w_ok q
theorem w_keysF {ma : ME} {i : Nat} {l : List (Key × D)} {Q : List D × (MH → Bool) → MH → Prop} (e : ma ρ h = .ok (.ref i) h) (c : h[i]? = some (.fK l)) (q : Q (l.map (fun p : Key × D => kD p.1), yes) h) : Sat (mKeysF ma ρ h) Q E := by
  refine w_eq ?_ q
  unfold mKeysF
  rw [e]
  show (match h[i]? with
    | some (.fK l) => Mi.R.ok (l.map (fun p : Key × D => kD p.1), yes) h
    | _ => .bad) = _
  rw [c]
end
end Mi

/-! list.extend of a tuple. -/
namespace Mi
open PySem L2 PySem.Spec PyProof.Rows
open AutoSeq1 (wpAny_loadPart')
theorem ext_tup34 (a : Addr) (xs : Array Value) (n : Nat) (b : Addr) (ys : Array Value) (m : Nat) (dd : Option Addr) (sl : Array (Option Value)) (h0 : ¬(!xs.isEmpty && Builtin.List.listTooLong (xs.size + ys.size)) = true) (h1 : xs.size ≤ sizeLine) (h2 : xs.size + ys.size ≤ sizeLine + 1) :
    Meets (Builtin.«list.extend» ⟨[.ref a, .ref b], []⟩) (fun _ R s => s.heap.get? a = some { cls := .type "list", dict := none, data := .seq xs n, slots := #[] } ∧ s.heap.get? b = some { cls := .type "tuple", dict := dd, data := .seq ys m, slots := sl } ∧
      R (.ok (.ret Value.none)) { s with heap := s.heap.update a (Obj.mapSeq fun x => x ++ ys), toks := s.toks }) :=
  .of_wp fun prog w A R s hh => by
    obtain ⟨hp, g, d, tk, os⟩ := s
    obtain ⟨ea, eb, hh⟩ := hh
    have k1 := AutoSeq1.idx_int
    have k2 := AutoSeq1.sub_tuple_tuple
    have k3 := AutoSeq1.sub_list_list
    have k4 := AutoSeq1.sub_tuple_list
    have k5 := AutoSeq1.sub_list_tuple
    have hz : (xs ++ ys).size ≤ sizeLine + 1 := by rw [Array.size_append]; exact h2
    wp_walk using (wpAny_updateSeq ea rfl (hz := h1) (_hz' := hz)), wpAny_loadPart' ea, wpAny_loadPart' eb
    exact ⟨_, rfl, hh⟩
def rExtTu (K : PySem.W.Frag) : V → List V → Hp → VK → Prop := fun x vs H Q => ∃ l b xs zs, x = .ref l ∧ vs = [.ref b] ∧ H l = some (.lst xs) ∧ SqT K H b zs ∧ xs.length + zs.length ≤ sizeLine ∧ Q .non (upd H l (.lst (xs ++ zs)))
theorem mt_extTu {X : Cx} : MtM X "list.extend" (rExtTu X.K) := by
  intro pins s σ H x vs v us Q I rx rv hh
  obtain ⟨l, b, xs, zs, rfl, rfl, eH, hB, zz, q⟩ := hh
  cases rx
  obtain ⟨u, rfl, ru⟩ := rv.one
  cases ru
  obtain ⟨z, its, n, r, hl, e⟩ := I.lstM eH
  obtain ⟨its2, r2, ⟨⟨cls, dd, dt, sl⟩, ho, hcl, m, hd⟩, _⟩ := I.tuple hB
  simp only at hcl hd
  subst hcl
  subst hd
  have s1 := r.length
  have s2 := r2.length
  have big : its.toArray.size + its2.toArray.size ≤ sizeLine := by simp only [List.size_toArray]; omega
  refine call_meets PySem.F.slot_list_extend ⟨_, e, rfl⟩ PySem.F.entry_list_extend (PySem.F.args_list_extend_2 _ _) (ext_tup34 l its.toArray n b its2.toArray m dd sl (fun w => ?_) (by simp only [List.size_toArray]; omega) (by omega)) ⟨e, ho, ?_⟩
  · have nl : Builtin.List.listTooLong (its.toArray.size + its2.toArray.size) = false := by
      unfold Builtin.List.listTooLong
      exact decide_eq_false (by omega)
    rw [nl, Bool.and_false] at w
    cases w
  · refine ⟨.non, _, I.lset (its' := its ++ its2) eH e (by simp) (r.append r2) ?_, rfl, q⟩
    rw [List.length_append]
    omega
def dExtTu : D → List D → MH → R D
  | .ref i, [x], h => match x with
    | .tup m => match h[i]? with
      | some (.lst l) => if l.length + m.length ≤ 1000000 then .ok .non (h.set i (.lst (l ++ m))) else .bad
      | _ => .bad
    | _ => .bad
  | _, _, _ => .bad
theorem sm_extTu {g : G} : SM g (rExtTu g.K) dExtTu := by
  intro H μ h x xs a ds Q W hr va vs bk
  unfold dExtTu at bk
  split at bk
  · rename_i i x
    cases va with
    | @ref p _ hi =>
      cases vs with
      | cons vd t =>
        cases t
        cases vd with
        | tup tk ws =>
          simp only at bk
          split at bk
          · rename_i l q1
            split at bk
            · rename_i hl
              obtain ⟨ys, h1, h2⟩ := hr.lst hi q1
              exact ⟨p, _, ys, _, rfl, rfl, h1, tk.sq, by rw [h2.length, ws.length]; exact sz6 hl, bk.setL hr hi q1 h1 (h2.append ws) .non⟩
            · exact bk.elim
          · exact bk.elim
        | _ => exact bk.elim
  · exact bk.elim
theorem w_extTu {h : MH} {i : Nat} {l m : List D} {Q : D → MH → Prop} {E : XE} (e : h[i]? = some (.lst l)) (c : l.length + m.length ≤ 1000000) (q : Q .non (h.set i (.lst (l ++ m)))) : Sat (dExtTu (.ref i) [.tup m] h) Q E := w_eq (by simp only [dExtTu, e, if_pos c]) q
end Mi
namespace Mi
open PySem L2
def m_other_name_452b4 : List D → MH → R D := mFun 1 3
 (mSeq (mFor (mIter (mC (.str (Str.ofString "abcdefghijklmnopqrstuvwxyz")))) (mgName 1)
 (mFor (mIter (mC (.str (Str.ofString "abcdefghijklmnopqrstuvwxyz")))) (mgName 2)
 (mIf (mB (mBin dNotIn (mBin dAdd (mVar 1) (mVar 2)) (mVar 0)))
 (mRet (mBin dAdd (mVar 1) (mVar 2)))
 (mSkip))))
 (mRet (mC (.str (Str.ofString "other")))))
def m_source_of_7e334 : List D → MH → R D := mFun 3 6
 (mSeq (mIf (mB (mBin dIn (mVar 2) (mBin dIx (mVar 0) (mC (.int 2)))))
 (mSeq (mAsg 4 (mTIndexI (mBin dIx (mVar 0) (mC (.int 2))) (mVar 2)))
 (mSeq (mIf (mB (mBin dLt (mVar 4) (mCall dLen (mCons (mBin dIx (mVar 0) (mC (.int 1))) (mNil)))))
 (mRet (mTup (mCons (mBin dIx (mBin dIx (mVar 0) (mC (.int 1))) (mVar 4)) (mNil))))
 (mSkip))
 (mRet (mTup (mCons (mCall (m_other_name_452b4) (mCons (mBin dIx (mVar 0) (mC (.int 1))) (mNil))) (mNil))))))
 (mSkip))
 (mSeq (mFor (mRange1 (mCall dLen (mCons (mVar 1) (mNil)))) (mgName 3)
 (mFor (mRange1 (mCall dLen (mCons (mVar 1) (mNil)))) (mgName 5)
 (mIf (mAnd (mB (mBin dEq (mBin dIx (mBin dIx (mBin dIx (mVar 0) (mC (.int 3))) (mVar 3)) (mVar 5)) (mVar 2))) (mAnd (mB (mBin dNotN (mBin dIx (mVar 1) (mVar 3)) (mC .non))) (mB (mBin dNotN (mBin dIx (mVar 1) (mVar 5)) (mC .non)))))
 (mIf (mB (mBin dEq (mBin dAdd (mBin dIx (mVar 1) (mVar 3)) (mBin dIx (mVar 1) (mVar 5))) (mBin dIx (mVar 1) (mVar 2))))
 (mRet (mTup (mCons (mVar 3) (mCons (mVar 5) (mNil)))))
 (mSkip))
 (mSkip))))
 (mRet (mC .non))))
def m_sources_of_a14e9 : List D → MH → R D := mFun 3 5
 (mSeq (mAsg 3 (mDict0))
 (mSeq (mAsg 4 (mLst (mCons (mVar 2) (mNil))))
 (mSeq (mWhile 1000 (mB (mBin dNe (mVar 4) (mLst (mNil))))
 (mSeq (mAsg 2 (mMeth isListD dPop (mVar 4) (mNil)))
 (mIf (mB (mBin dANotIn (mVar 2) (mVar 3)))
 (mSeq (mASet (mVar 3) (mVar 2) (mCall (m_source_of_7e334) (mCons (mVar 0) (mCons (mVar 1) (mCons (mVar 2) (mNil))))))
 (mIf (mB (mBin dEq (mCall dLen (mCons (mBin dAIx (mVar 3) (mVar 2)) (mNil))) (mC (.int 2))))
 (mDrop (mMeth isListD dExtTu (mVar 4) (mCons (mBin dAIx (mVar 3) (mVar 2)) (mNil))))
 (mSkip)))
 (mSkip))))
 (mRet (mVar 3)))))
def m_makings_of_8c00c : List D → MH → R D := mFun 2 10
 (mSeq (mAsg 2 (mCall (m_sizes_9dfee) (mCons (mVar 0) (mNil))))
 (mSeq (mIf (mB (mBin dIsN (mBin dIx (mVar 2) (mVar 1)) (mC .non)))
 (mRet (mC .non))
 (mSkip))
 (mSeq (mAsg 3 (mCall (m_sources_of_a14e9) (mCons (mVar 0) (mCons (mVar 2) (mCons (mVar 1) (mNil))))))
 (mSeq (mAsg 4 (mDict0))
 (mSeq (mAsg 5 (mLst (mNil)))
 (mSeq (mFor (mIter (mCall dSortP (mCons (mLock 3 (mLc (mKeysF (mVar 3)) (mgName 7) (mYes) (mTup (mCons (mBin dIx (mVar 2) (mVar 7)) (mCons (mVar 7) (mNil)))) [7])) (mNil)))) (mgTup (mgCons (mgName 6) (mgCons (mgName 7) (mgNil))))
 (mSeq (mASet (mVar 4) (mVar 7) (mCall dLen (mCons (mVar 5) (mNil))))
 (mIf (mB (mBin dEq (mCall dLen (mCons (mBin dAIx (mVar 3) (mVar 7)) (mNil))) (mC (.int 1))))
 (mDrop (mMeth isListD dAppend (mVar 5) (mCons (mBin dAIx (mVar 3) (mVar 7)) (mNil))))
 (mSeq (mAsgT (mgTup (mgCons (mgName 8) (mgCons (mgName 9) (mgNil)))) (mBin dAIx (mVar 3) (mVar 7)))
 (mDrop (mMeth isListD dAppend (mVar 5) (mCons (mTup (mCons (mBin dAIx (mVar 4) (mVar 8)) (mCons (mBin dAIx (mVar 4) (mVar 9)) (mNil)))) (mNil))))))))
 (mRet (mCall dTuple (mCons (mVar 5) (mNil))))))))))
end Mi
namespace Mi
open PySem L2
local macro_rules | `(tactic| walk_at "w") => `(tactic| first
  | with_reducible refine w_seq ?_
  | with_reducible refine w_asg ?_
  | with_reducible refine w_cons ?_
  | with_reducible refine w_nil ?_
  | with_reducible refine w_c ?_
  | ((with_reducible refine w_var (d := ?_) ?_ ?_); rotate_left; rfl)
  | with_reducible refine w_bin ?_
  | with_reducible refine w_call ?_
  | with_reducible refine w_if ?_
  | with_reducible refine w_B ?_
  | with_reducible refine w_unB ?_
  | with_reducible refine w_ret ?_
  | with_reducible refine w_drop ?_
  | with_reducible refine w_skip ?_
  | with_reducible refine w_eq (dAdd_int _ _ _) ?_
  | with_reducible refine w_eq (dSub_int _ _ _) ?_
  | with_reducible refine w_eq (dEq_int _ _ _) ?_
  | with_reducible refine w_eq (dEq_str _ _ _) ?_
  | with_reducible refine w_eq (dLt_int _ _ _) ?_
  | with_reducible refine w_eq (dLe_int _ _ _) ?_
  | with_reducible refine w_eq (dGt_int _ _ _) ?_
  | with_reducible refine w_eq (dGe_int _ _ _) ?_
  | with_reducible refine w_eq (dNe_int _ _ _) ?_
  | ((with_reducible refine w_mod ?_ ?_); (first | assumption | decide | omega))
  | ((with_reducible refine w_fdiv ?_ ?_); (first | assumption | decide | omega))
  | ((with_reducible refine w_mulS ?_ ?_); (first | decide | omega))
  | ((with_reducible refine w_addS ?_ ?_); (first | assumption | decide | omega))
  | ((with_reducible refine w_lenS ?_ ?_); (first | assumption | decide | omega))
  | ((with_reducible refine w_slS ?_ ?_); (first | assumption | decide | omega))
  | with_reducible refine w_eq (dLen_tup _ _) ?_
  | with_reducible refine w_eq (dSl_tup _ _ _ _) ?_
  | with_reducible refine w_eq (dMax_ev _ _ _) ?_
  | with_reducible refine w_eq (dMin_ev _ _ _) ?_
  | with_reducible refine w_eq (dAbs_ev _ _) ?_
  | with_reducible refine w_not ?_
  | with_reducible refine w_and ?_
  | with_reducible refine w_or ?_
  | with_reducible refine br_n ?_
  | with_reducible refine br_tt ?_
  | with_reducible refine br_ff ?_
  | ((with_reducible refine br_dt ?_ ?_); (first | assumption | omega))
  | ((with_reducible refine br_df ?_ ?_); (first | assumption | omega))
  | with_reducible refine w_tup ?_
  | ((with_reducible refine w_toTup ?_ ?_); (first | (simp; done)))
  | with_reducible refine w_lst ?_
  | with_reducible refine w_lc ?_
  | with_reducible refine w_for ?_
  | with_reducible refine w_range1 ?_
  | with_reducible refine w_range2 ?_
  | ((with_reducible refine w_dR1 ?_ ?_); (first | decide | omega))
  | ((with_reducible refine w_dR2 ?_ ?_); (first | decide | omega))
  | with_reducible refine w_iter ?_
  | with_reducible refine w_eq (iter1_tup _ _) ?_
  | with_reducible refine w_eq (iter1_str _ _) ?_
  | with_reducible refine w_sl ?_
  | with_reducible refine w_no ?_
  | with_reducible refine w_some ?_
  | with_reducible refine w_unI ?_
  | with_reducible refine w_meth ?_
  | with_reducible refine w_isi ?_
  | with_reducible refine w_zip ?_
  | with_reducible refine w_ifE ?_
  | with_reducible refine w_andV ?_
  | with_reducible refine w_orV ?_
  | with_reducible refine w_notV ?_
  | with_reducible refine w_andK ?_
  | with_reducible refine w_orK ?_
  | with_reducible refine w_notK ?_
  | with_reducible refine w_revL ?_
  | with_reducible refine w_listRg1 ?_
  | with_reducible refine w_tindex ?_
  | with_reducible refine w_setIx ?_
  | with_reducible refine w_un ?_
  | with_reducible refine w_rev1 ?_
  | with_reducible refine w_rev2 ?_
  | with_reducible refine w_chain ?_
  | with_reducible refine w_chK ?_
  | with_reducible refine w_retN ?_
  | with_reducible refine w_brk ?_
  | with_reducible refine w_cont ?_
  | with_reducible refine w_asgT ?_
  | with_reducible refine w_eq (isi_str_str _ _) ?_
  | with_reducible refine w_eq (isi_int_int _ _) ?_
  | with_reducible refine w_eq (isi_tup_tup _ _) ?_)
local macro_rules | `(tactic| walk_at "go") => `(tactic| (repeat (walk_at "w")); try dsimp only [List.set])
local macro_rules | `(tactic| walk_at "fn") => `(tactic| ((refine w_fun ?_); simp only [startD, List.map_cons, List.map_nil, List.reduceReplicate, Nat.reduceSub, List.cons_append, List.nil_append]; walk_at "go"))
theorem mod_in (x : Int) {n : Int} (h : 0 < n) : 0 ≤ x % n ∧ x % n < n := ⟨Int.emod_nonneg _ (by omega), Int.emod_lt_of_pos _ h⟩
def Cell (c : Int) : Prop := Builtin.Int.intBits c ≤ 1048576
theorem c_cell_at {ns : List Int} (hb : ∀ z ∈ ns, Cell z) {h : MH} {i : Nat} (hl : getL h i = some (ns.map D.int)) {k : Int} (h0 : 0 ≤ k) : Sat (m_cell_at_2c4cb [.ref i, .int k] h) (fun d h' => h' = h ∧ ∃ c, d = .int c ∧ Cell c) noX := by
  walk_at "fn"
  refine w_lenL hl ?_
  walk_at "go"
  refine br_d (fun c => ?_) (fun c => ?_)
  · walk_at "go"
    rw [List.length_map] at c
    obtain ⟨d, e1, e2⟩ := atI_in (l := ns.map D.int) h0 (by simpa using c)
    refine w_ixL hl e1 ⟨rfl, ?_⟩
    rw [List.getElem?_map, Option.map_eq_some_iff] at e2
    obtain ⟨z, e3, rfl⟩ := e2
    exact ⟨z, rfl, hb z (List.mem_of_getElem? e3)⟩
  · walk_at "go"
    exact ⟨rfl, 0, rfl, show Builtin.Int.intBits 0 ≤ 1048576 by decide⟩
def Tp (l : List D) : Prop := ∃ zs : List Int, l = zs.map .int ∧ ∀ z ∈ zs, 0 ≤ z ∧ z < 2147483648
theorem Tp.nil : Tp [] := ⟨[], rfl, fun z hz => by simp at hz⟩
theorem Tp.app {l : List D} {v : Int} (t : Tp l) (hv : 0 ≤ v ∧ v < 2147483648) : Tp (l ++ [.int v]) := by
  obtain ⟨zs, rfl, hz⟩ := t
  refine ⟨zs ++ [v], by simp, fun z hm => ?_⟩
  rcases List.mem_append.mp hm with hm | hm
  · exact hz z hm
  · rw [List.mem_singleton.mp hm]; exact hv
/-! equal lists of scalars -/
theorem allSome_map {α β : Type} (g : α → β) : ∀ l : List α, allSome (l.map fun a => some (g a)) = some (l.map g)
  | [] => rfl
  | a :: l => by simp [allSome, allSome_map g l]
structure Scal {α : Type} (S : α → Prop) (f : α → D) (g : α → PyData) : Prop where
  py : ∀ n h a, pyOf (n + 1) h (f a) = some (g a)
  lay : ∀ a, S a → PyData.canLay0 (g a) = true
  dep : ∀ a, PyData.depth (g a) = 0
  ev : ∀ a b, PyData.eqv (g a) (g b) = true ↔ a = b
theorem Scal.all {α : Type} {S : α → Prop} {f : α → D} {g : α → PyData} (c : Scal S f g) : ∀ {l : List α}, (∀ a ∈ l, S a) → PyData.canLayAll0 (l.map g) = true ∧ PyData.depthAll (l.map g) = 0
  | [], _ => ⟨rfl, rfl⟩
  | a :: l, h => by
    obtain ⟨h1, h2⟩ := c.all (l := l) fun b hb => h b (List.mem_cons_of_mem _ hb)
    simp only [List.map_cons, PyData.canLayAll0, PyData.depthAll, c.lay a (h a List.mem_cons_self), h1, c.dep, h2]
    exact ⟨rfl, rfl⟩
theorem Scal.eq {α : Type} {S : α → Prop} {f : α → D} {g : α → PyData} (c : Scal S f g) [DecidableEq α] : ∀ {l m : List α}, PyData.eqvAll (l.map g) (m.map g) = decide (l = m)
  | [], [] => rfl
  | a :: l, [] => rfl
  | [], a :: l => rfl
  | a :: l, b :: m => by
    simp only [List.map_cons, PyData.eqvAll, c.eq (l := l) (m := m)]
    rw [Bool.eq_iff_iff, Bool.and_eq_true, c.ev, decide_eq_true_iff, decide_eq_true_iff, List.cons.injEq]
theorem scal_int : Scal (fun _ => True) D.int PyData.int := ⟨fun _ _ _ => rfl, fun _ _ => rfl, fun _ => rfl, fun a b => by simp [PyData.eqv]⟩
def OkS (x : Str) : Prop := ∀ c ∈ x.cps.toList, c < 1114112
/-! names -/
def Wd (n : Nat) (x : Str) : Prop := x.length ≤ n ∧ OkS x
theorem str_len (x : Str) : x.length = x.cps.toList.length := by rw [Array.length_toList]; rfl
theorem app_cps (x y : Str) : (x ++ y).cps.toList = x.cps.toList ++ y.cps.toList := by
  show (x.cps ++ y.cps).toList = _
  rw [Array.toList_append]
theorem app_len (x y : Str) : (x ++ y).length = x.length + y.length := by rw [str_len, str_len, str_len, app_cps, List.length_append]
theorem Wd.app {a b : Nat} {x y : Str} (hx : Wd a x) (hy : Wd b y) : Wd (a + b) (x ++ y) := ⟨by rw [app_len]; exact Nat.add_le_add hx.1 hy.1, fun c hc => by
  rw [app_cps] at hc
  rcases List.mem_append.mp hc with h | h
  · exact hx.2 c h
  · exact hy.2 c h⟩
theorem Wd.sign {a : Nat} {x : Str} (hx : Wd a x) {c : Nat} (hc : c ∈ x.cps.toList) : Wd 1 ⟨#[c]⟩ := ⟨Nat.le_refl 1, fun d hd => by
  have : d = c := by simpa using hd
  subst this
  exact hx.2 _ hc⟩
theorem Wd.le {a b : Nat} {x : Str} (hx : Wd a x) (h : a ≤ b) : Wd b x := ⟨Nat.le_trans hx.1 h, hx.2⟩
theorem joinL_nil : ∀ ps : List (List Nat), TL.joinL [] ps = ps.flatten
  | [] => rfl
  | [p] => by simp [TL.joinL]
  | p :: q :: r => by simp [TL.joinL, joinL_nil (q :: r)]
theorem join_cps (ys : List Str) : (Txt.join (Str.ofString "") ys).cps.toList = (ys.map fun y => y.cps.toList).flatten := by
  have e : Txt.join (Str.ofString "") ys = Str.join (Str.ofString "") ys := StrLaws.glued_eq_join _ _
  rw [e]
  exact (TL.tl_join _ _).trans (joinL_nil _)
theorem Wd.join : ∀ {ys : List Str}, (∀ y ∈ ys, Wd 1 y) → Wd ys.length (Txt.join (Str.ofString "") ys) := fun {ys} h => by
  constructor
  · rw [str_len, join_cps]
    induction ys with
    | nil => simp
    | cons y ys ih =>
      have h1 := (h y List.mem_cons_self).1
      have h2 := ih fun z hz => h z (List.mem_cons_of_mem _ hz)
      rw [str_len] at h1
      simp only [List.map_cons, List.flatten_cons, List.length_append, List.length_cons]
      omega
  · intro c hc
    rw [join_cps] at hc
    obtain ⟨l, hl, hc⟩ := List.mem_flatten.mp hc
    obtain ⟨y, hy, rfl⟩ := List.mem_map.mp hl
    exact (h y hy).2 c hc
theorem lt_len : (Str.ofString "abcdefghijklmnopqrstuvwxyz").length = 26 := by decide +kernel
def Wds (n : Nat) (l : List D) : Prop := ∃ ns : List Str, l = ns.map .str ∧ ∀ x ∈ ns, Wd n x
theorem Wds.app {n : Nat} {l m : List D} (hl : Wds n l) (hm : Wds n m) : Wds n (l ++ m) := by
  obtain ⟨a, rfl, ha⟩ := hl
  obtain ⟨b, rfl, hb⟩ := hm
  refine ⟨a ++ b, by simp, fun x hx => ?_⟩
  rcases List.mem_append.mp hx with h | h
  · exact ha x h
  · exact hb x h
theorem Wds.one {n : Nat} {x : Str} (h : Wd n x) : Wds n [.str x] := ⟨[x], rfl, fun y hy => by rw [List.mem_singleton.mp hy]; exact h⟩
/-! machines -/
def InL (n : Int) (l : List D) : Prop := ∀ d ∈ l, ∃ v, d = .int v ∧ 0 ≤ v ∧ v < n
theorem InL.nil (n : Int) : InL n [] := fun d hd => by simp at hd
theorem InL.app {n : Int} {l : List D} {v : Int} (h : InL n l) (h0 : 0 ≤ v) (h1 : v < n) : InL n (l ++ [.int v]) := fun d hd => by
  rcases List.mem_append.mp hd with q | q
  · exact h d q
  · exact ⟨v, List.mem_singleton.mp q, h0, h1⟩
theorem InL.of {n : Int} {ys : List D} (h : ∀ (i : Nat) y, ys[i]? = some y → ∃ v, y = .int v ∧ 0 ≤ v ∧ v < n) : InL n ys := fun d hd => by
  obtain ⟨k, hk⟩ := List.getElem?_of_mem hd
  exact h k d hk
theorem sortS_mem {l : List Str} {x : Str} : x ∈ sortS l ↔ x ∈ l := (List.mergeSort_perm l leS).mem_iff
theorem sortS_len {l : List Str} : (sortS l).length = l.length := (List.mergeSort_perm l leS).length_eq
structure Mach (F N S T K : List D) (m : Int) : Prop where
  m1 : 1 ≤ m
  fs : Wds 20 F
  fl : F.length ≤ 9
  ns : Wds 20 N
  nl : N.length ≤ 9
  ss : InL m S
  sl : S.length = N.length + 1
  tl : (T.length : Int) = m
  ts : ∀ r ∈ T, ∃ l, r = .tup l ∧ (l.length : Int) = m ∧ InL m l
  kl : (K.length : Int) = m
  ks : InL (2 ^ F.length) K
end Mi
namespace Mi
open PySem L2
local macro_rules | `(tactic| walk_at "w") => `(tactic| first
  | with_reducible refine w_seq ?_
  | with_reducible refine w_asg ?_
  | with_reducible refine w_cons ?_
  | with_reducible refine w_nil ?_
  | with_reducible refine w_c ?_
  | ((with_reducible refine w_var (d := ?_) ?_ ?_); rotate_left; rfl)
  | with_reducible refine w_bin ?_
  | with_reducible refine w_call ?_
  | with_reducible refine w_if ?_
  | with_reducible refine w_B ?_
  | with_reducible refine w_unB ?_
  | with_reducible refine w_ret ?_
  | with_reducible refine w_drop ?_
  | with_reducible refine w_skip ?_
  | with_reducible refine w_eq (dAdd_int _ _ _) ?_
  | with_reducible refine w_eq (dSub_int _ _ _) ?_
  | with_reducible refine w_eq (dEq_int _ _ _) ?_
  | with_reducible refine w_eq (dEq_str _ _ _) ?_
  | with_reducible refine w_eq (dLt_int _ _ _) ?_
  | with_reducible refine w_eq (dLe_int _ _ _) ?_
  | with_reducible refine w_eq (dGt_int _ _ _) ?_
  | with_reducible refine w_eq (dGe_int _ _ _) ?_
  | with_reducible refine w_eq (dNe_int _ _ _) ?_
  | ((with_reducible refine w_mod ?_ ?_); (first | assumption | decide | omega))
  | ((with_reducible refine w_fdiv ?_ ?_); (first | assumption | decide | omega))
  | ((with_reducible refine w_mulS ?_ ?_); (first | decide | omega))
  | ((with_reducible refine w_addS ?_ ?_); (first | assumption | decide | omega))
  | ((with_reducible refine w_lenS ?_ ?_); (first | assumption | decide | omega))
  | ((with_reducible refine w_slS ?_ ?_); (first | assumption | decide | omega))
  | with_reducible refine w_eq (dLen_tup _ _) ?_
  | with_reducible refine w_eq (dSl_tup _ _ _ _) ?_
  | with_reducible refine w_eq (dMax_ev _ _ _) ?_
  | with_reducible refine w_eq (dMin_ev _ _ _) ?_
  | with_reducible refine w_eq (dAbs_ev _ _) ?_
  | with_reducible refine w_not ?_
  | with_reducible refine w_and ?_
  | with_reducible refine w_or ?_
  | with_reducible refine br_n ?_
  | with_reducible refine br_tt ?_
  | with_reducible refine br_ff ?_
  | ((with_reducible refine br_dt ?_ ?_); (first | assumption | omega))
  | ((with_reducible refine br_df ?_ ?_); (first | assumption | omega))
  | with_reducible refine w_tup ?_
  | ((with_reducible refine w_toTup ?_ ?_); exact (by simp))
  | with_reducible refine w_lst ?_
  | with_reducible refine w_lc ?_
  | with_reducible refine w_for ?_
  | with_reducible refine w_range1 ?_
  | with_reducible refine w_range2 ?_
  | ((with_reducible refine w_dR1 ?_ ?_); (first | decide | omega))
  | ((with_reducible refine w_dR2 ?_ ?_); (first | decide | omega))
  | with_reducible refine w_iter ?_
  | with_reducible refine w_eq (iter1_tup _ _) ?_
  | with_reducible refine w_eq (iter1_str _ _) ?_
  | with_reducible refine w_sl ?_
  | with_reducible refine w_no ?_
  | with_reducible refine w_some ?_
  | with_reducible refine w_unI ?_
  | with_reducible refine w_meth ?_
  | with_reducible refine w_isi ?_
  | with_reducible refine w_zip ?_
  | with_reducible refine w_ifE ?_
  | with_reducible refine w_andV ?_
  | with_reducible refine w_orV ?_
  | with_reducible refine w_notV ?_
  | with_reducible refine w_andK ?_
  | with_reducible refine w_orK ?_
  | with_reducible refine w_notK ?_
  | with_reducible refine w_revL ?_
  | with_reducible refine w_listRg1 ?_
  | with_reducible refine w_tindex ?_
  | with_reducible refine w_setIx ?_
  | with_reducible refine w_un ?_
  | with_reducible refine w_rev1 ?_
  | with_reducible refine w_rev2 ?_
  | with_reducible refine w_chain ?_
  | with_reducible refine w_chK ?_
  | with_reducible refine w_retN ?_
  | with_reducible refine w_brk ?_
  | with_reducible refine w_cont ?_
  | with_reducible refine w_asgT ?_
  | with_reducible refine w_eq (isi_str_str _ _) ?_
  | with_reducible refine w_eq (isi_int_int _ _) ?_
  | with_reducible refine w_eq (isi_tup_tup _ _) ?_)
local macro_rules | `(tactic| walk_at "go") => `(tactic| (repeat (walk_at "w")); try dsimp only [List.set])
local macro_rules | `(tactic| walk_at "fn") => `(tactic| ((refine w_fun ?_); simp only [startD, List.map_cons, List.map_nil, List.reduceReplicate, Nat.reduceSub, List.cons_append, List.nil_append]; walk_at "go"))
theorem Own.del {h0 h : MH} {L : LL} (o : Own h0 h L) (n : Nat) : Own h0 h (L.eraseIdx n) := o.sub (List.eraseIdx_sublist _ _)
end Mi
namespace Mi
open PySem L2
local macro_rules | `(tactic| walk_at "gl") => `(tactic| first
  | assumption
  | (refine Own.atL (h0 := ?_) (L := ?_) ?_ 0 ?_; rotate_left; rotate_left; assumption; rfl)
  | (refine Own.atL (h0 := ?_) (L := ?_) ?_ 1 ?_; rotate_left; rotate_left; assumption; rfl)
  | (refine Own.atL (h0 := ?_) (L := ?_) ?_ 2 ?_; rotate_left; rotate_left; assumption; rfl)
  | (refine Own.atL (h0 := ?_) (L := ?_) ?_ 3 ?_; rotate_left; rotate_left; assumption; rfl)
  | (refine Own.atL (h0 := ?_) (L := ?_) ?_ 4 ?_; rotate_left; rotate_left; assumption; rfl)
  | (refine Own.atL (h0 := ?_) (L := ?_) ?_ 5 ?_; rotate_left; rotate_left; assumption; rfl)
  | (refine Own.atL (h0 := ?_) (L := ?_) ?_ 6 ?_; rotate_left; rotate_left; assumption; rfl)
  | (refine Own.atL (h0 := ?_) (L := ?_) ?_ 7 ?_; rotate_left; rotate_left; assumption; rfl)
  | (refine Own.atL (h0 := ?_) (L := ?_) ?_ 8 ?_; rotate_left; rotate_left; assumption; rfl)
  | (refine Own.atL (h0 := ?_) (L := ?_) ?_ 9 ?_; rotate_left; rotate_left; assumption; rfl)
  | (refine Own.getL (h0 := ?_) (L := ?_) ?_ ?_; rotate_left; rotate_left; assumption; assumption))
local macro_rules | `(tactic| walk_at "il") => `(tactic| first
  | (refine Own.isL (h0 := ?_) (L := ?_) (l := ?_) ?_ 0 ?_; rotate_left; rotate_left; rotate_left; assumption; rfl)
  | (refine Own.isL (h0 := ?_) (L := ?_) (l := ?_) ?_ 1 ?_; rotate_left; rotate_left; rotate_left; assumption; rfl)
  | (refine Own.isL (h0 := ?_) (L := ?_) (l := ?_) ?_ 2 ?_; rotate_left; rotate_left; rotate_left; assumption; rfl)
  | (refine Own.isL (h0 := ?_) (L := ?_) (l := ?_) ?_ 3 ?_; rotate_left; rotate_left; rotate_left; assumption; rfl)
  | (refine Own.isL (h0 := ?_) (L := ?_) (l := ?_) ?_ 4 ?_; rotate_left; rotate_left; rotate_left; assumption; rfl)
  | (refine Own.isL (h0 := ?_) (L := ?_) (l := ?_) ?_ 5 ?_; rotate_left; rotate_left; rotate_left; assumption; rfl)
  | (refine Own.isL (h0 := ?_) (L := ?_) (l := ?_) ?_ 6 ?_; rotate_left; rotate_left; rotate_left; assumption; rfl)
  | (refine Own.isL (h0 := ?_) (L := ?_) (l := ?_) ?_ 7 ?_; rotate_left; rotate_left; rotate_left; assumption; rfl)
  | (refine Own.isL (h0 := ?_) (L := ?_) (l := ?_) ?_ 8 ?_; rotate_left; rotate_left; rotate_left; assumption; rfl)
  | (refine Own.isL (h0 := ?_) (L := ?_) (l := ?_) ?_ 9 ?_; rotate_left; rotate_left; rotate_left; assumption; rfl))
local macro_rules | `(tactic| walk_at "bd") => `(tactic| first | assumption | omega | (simp; done) | (simp; omega) | (simp [*]; done) | (simp [*]; omega))
local macro_rules | `(tactic| walk_at "w") => `(tactic| first
  | with_reducible refine w_seq ?_
  | with_reducible refine w_asg ?_
  | with_reducible refine w_cons ?_
  | with_reducible refine w_nil ?_
  | with_reducible refine w_c ?_
  | ((with_reducible refine w_var (d := ?_) ?_ ?_); rotate_left; rfl)
  | with_reducible refine w_bin ?_
  | with_reducible refine w_call ?_
  | with_reducible refine w_if ?_
  | with_reducible refine w_B ?_
  | with_reducible refine w_unB ?_
  | with_reducible refine w_ret ?_
  | with_reducible refine w_drop ?_
  | with_reducible refine w_skip ?_
  | with_reducible refine w_eq (dAdd_int _ _ _) ?_
  | with_reducible refine w_eq (dSub_int _ _ _) ?_
  | with_reducible refine w_eq (dEq_int _ _ _) ?_
  | with_reducible refine w_eq (dEq_str _ _ _) ?_
  | with_reducible refine w_eq (dNe_strs _ _ _) ?_
  | with_reducible refine w_eq (dEq_bls _ _ _) ?_
  | with_reducible refine w_eq (dNe_bls _ _ _) ?_
  | with_reducible refine w_eq (dLt_int _ _ _) ?_
  | with_reducible refine w_eq (dLe_int _ _ _) ?_
  | with_reducible refine w_eq (dGt_int _ _ _) ?_
  | with_reducible refine w_eq (dGe_int _ _ _) ?_
  | with_reducible refine w_eq (dNe_int _ _ _) ?_
  | ((with_reducible refine w_mod ?_ ?_); (first | assumption | decide | omega))
  | ((with_reducible refine w_fdiv ?_ ?_); (first | assumption | decide | omega))
  | ((with_reducible refine w_mulS ?_ ?_); (first | decide | omega))
  | ((with_reducible refine w_addS ?_ ?_); (first | assumption | decide | omega))
  | ((with_reducible refine w_lenS ?_ ?_); (first | assumption | decide | omega))
  | ((with_reducible refine w_slS ?_ ?_); (first | assumption | decide | omega))
  | with_reducible refine w_lenTm ?_
  | with_reducible refine w_eq (dLen_tup _ _) ?_
  | with_reducible refine w_eq (dSl_tup _ _ _ _) ?_
  | with_reducible refine w_eq (dMax_ev _ _ _) ?_
  | with_reducible refine w_eq (dMin_ev _ _ _) ?_
  | with_reducible refine w_eq (dAbs_ev _ _) ?_
  | with_reducible refine w_not ?_
  | with_reducible refine w_and ?_
  | with_reducible refine w_or ?_
  | with_reducible refine br_n ?_
  | with_reducible refine br_tt ?_
  | with_reducible refine br_ff ?_
  | ((with_reducible refine br_dt ?_ ?_); (first | assumption | omega | rfl))
  | ((with_reducible refine br_df ?_ ?_); (first | assumption | omega))
  | with_reducible refine w_tup ?_
  | ((with_reducible refine w_toTup ?_ ?_); exact (by simp))
  | with_reducible refine w_lst ?_
  | with_reducible refine w_lc ?_
  | with_reducible refine w_for ?_
  | with_reducible refine w_range1 ?_
  | with_reducible refine w_range2 ?_
  | ((with_reducible refine w_dR1 ?_ ?_); (first | decide | omega))
  | ((with_reducible refine w_dR2 ?_ ?_); (first | decide | omega))
  | with_reducible refine w_iter ?_
  | with_reducible refine w_eq (iter1_tup _ _) ?_
  | with_reducible refine w_eq (iter1_str _ _) ?_
  | with_reducible refine w_sl ?_
  | with_reducible refine w_no ?_
  | with_reducible refine w_some ?_
  | with_reducible refine w_unI ?_
  | with_reducible refine w_meth ?_
  | with_reducible refine w_isi ?_
  | with_reducible refine w_zip ?_
  | with_reducible refine w_ifE ?_
  | with_reducible refine w_andV ?_
  | with_reducible refine w_orV ?_
  | with_reducible refine w_notV ?_
  | with_reducible refine w_andK ?_
  | with_reducible refine w_orK ?_
  | with_reducible refine w_notK ?_
  | with_reducible refine w_revL ?_
  | with_reducible refine w_listRg1 ?_
  | with_reducible refine w_tindex ?_
  | with_reducible refine w_setIx ?_
  | with_reducible refine w_un ?_
  | with_reducible refine w_rev1 ?_
  | with_reducible refine w_rev2 ?_
  | with_reducible refine w_chain ?_
  | with_reducible refine w_chK ?_
  | with_reducible refine w_retN ?_
  | with_reducible refine w_brk ?_
  | with_reducible refine w_cont ?_
  | with_reducible refine w_asgT ?_
  | with_reducible refine w_eq (isi_str_str _ _) ?_
  | with_reducible refine w_eq (isi_int_int _ _) ?_
  | with_reducible refine w_eq (isi_tup_tup _ _) ?_
  | with_reducible refine w_eq (isi_bool_int _ _) ?_
  | with_reducible refine w_eq (isi_str_int _ _) ?_
  | ((with_reducible refine w_lenLm (α := ?_) (f := ?_) (l := ?_) ?_ ?_); rotate_left; rotate_left; rotate_left; walk_at "gl")
  | ((with_reducible refine w_lenL (l := ?_) ?_ ?_); rotate_left; walk_at "gl")
  | ((with_reducible refine w_iterL (l := ?_) ?_ ?_); rotate_left; walk_at "gl"; dsimp only)
  | ((with_reducible refine w_tupL (l := ?_) ?_ ?_); rotate_left; walk_at "gl")
  | ((with_reducible refine w_ixT (d := ?_) ?_ ?_); rotate_left; (first | with_reducible assumption | rfl))
  | ((with_reducible refine w_ixL (l := ?_) (d := ?_) ?_ ?_ ?_); rotate_left; rotate_left; walk_at "gl"; (first | with_reducible assumption | rfl))
  | ((with_reducible refine w_addT ?_ ?_); walk_at "bd")
  | ((with_reducible refine ⟨?_, ?_⟩); (with_reducible (show isListD (.ref _) _ = true)); walk_at "il")
  | with_reducible refine w_tryK ?_
  | with_reducible refine w_raise ?_
  | with_reducible refine w_raise0 ?_
  | with_reducible refine w_isX ?_
  | ((with_reducible refine w_isXK (k := ?_) ?_ ?_); rotate_left; (first | with_reducible exact lkA | (apply lkB; decide +kernel; exact lkA) | (apply lkB; decide +kernel; apply lkB; decide +kernel; exact lkA) | (apply lkB; decide +kernel; apply lkB; decide +kernel; apply lkB; decide +kernel; exact lkA)))
  | with_reducible refine w_xf ?_
  | ((with_reducible refine w_xfK ?_ ?_ ?_); (exact List.mem_cons_self); (decide))
  | with_reducible refine w_eq (isN_xo _) ?_
  | with_reducible refine w_eq (dNeg_int _ _) ?_)
local macro_rules | `(tactic| walk_at "go") => `(tactic| (repeat (walk_at "w")); try dsimp only [List.set])
local macro_rules | `(tactic| walk_at "fn") => `(tactic| ((refine w_fun ?_); simp only [startD, List.map_cons, List.map_nil, List.reduceReplicate, Nat.reduceSub, List.cons_append, List.nil_append]; walk_at "go"))
section
open PySem L2

/-! ### cells, names, parents -/
theorem cell_small {c : Int} (h0 : 0 ≤ c) (h1 : c < 2147483648) : Cell c := Nat.le_trans (bits_small (by omega) (by omega)) (by decide)
def CellP (c : Int) : Prop := Cell c ∧ 0 ≤ c
theorem mem_app {α : Type} {S : α → Prop} {l : List α} {x : α} (h : ∀ a ∈ l, S a) (hx : S x) : ∀ a ∈ l ++ [x], S a := fun a ha => by
  rcases List.mem_append.mp ha with q | q
  · exact h a q
  · rw [List.mem_singleton.mp q]; exact hx
theorem map_app1 {α β : Type} (f : α → β) (l : List α) (x : α) : l.map f ++ [f x] = (l ++ [x]).map f := by simp
/-! names -/
def Ltr (c : Nat) : Prop := 97 ≤ c ∧ c ≤ 122
def Nm (x : Str) : Prop := 1 ≤ x.length ∧ x.length ≤ 8 ∧ ∀ c ∈ x.cps.toList, Ltr c
def Ls (n : Nat) (x : Str) : Prop := x.length = n ∧ ∀ c ∈ x.cps.toList, Ltr c
theorem Ls.app {a b : Nat} {x y : Str} (hx : Ls a x) (hy : Ls b y) : Ls (a + b) (x ++ y) := ⟨by rw [app_len, hx.1, hy.1], fun c hc => by
  rw [app_cps] at hc
  rcases List.mem_append.mp hc with q | q
  · exact hx.2 c q
  · exact hy.2 c q⟩
theorem Ls.nm {n : Nat} {x : Str} (h : Ls n x) (h1 : 1 ≤ n) (h8 : n ≤ 8) : Nm x := ⟨by rw [h.1]; exact h1, by rw [h.1]; exact h8, h.2⟩
theorem w_addLs {a b : Nat} {x y : Str} {h : MH} {Q : D → MH → Prop} {E : XE} (hx : Ls a x) (hy : Ls b y) (c : a + b ≤ 1000) (q : Ls (a + b) (x ++ y) → Q (.str (x ++ y)) h) : Sat (dAdd (.str x) (.str y) h) Q E :=
  w_addS (by rw [hx.1, hy.1]; omega) (q (hx.app hy))
theorem emp_cps : (Str.ofString "").cps.toList = [] := by decide +kernel
/-! parents -/
def Par (ps : List Int) : Prop := ps[0]? = some 0 ∧ ∀ (k : Nat) p, 0 < k → ps[k]? = some p → 0 ≤ p ∧ p < (k : Int)
theorem Par.app {ps : List Int} {p : Int} (h : Par ps) (hl : 0 < ps.length) (h0 : 0 ≤ p) (h1 : p < (ps.length : Int)) : Par (ps ++ [p]) := ⟨by rw [List.getElem?_append_left hl]; exact h.1, fun k q hk e => by
  rcases Nat.lt_or_ge k ps.length with z | z
  · rw [List.getElem?_append_left z] at e
    exact h.2 k q hk e
  · rw [List.getElem?_append_right z] at e
    have : k - ps.length = 0 := by
      have := (List.getElem?_eq_some_iff.mp e).1
      simp at this; omega
    rw [this] at e
    simp at e
    omega⟩
/-! ### documents -/
inductive Doc where
  | mk (x : Str) (ks : List Doc)
def Doc.nm : Doc → Str
  | .mk x _ => x
def Doc.ks : Doc → List Doc
  | .mk _ l => l
mutual
def Doc.toD : Doc → D
  | .mk x l => .tup [.str x, .tup (Doc.toDs l)]
def Doc.toDs : List Doc → List D
  | [] => []
  | d :: l => d.toD :: Doc.toDs l
end
def Doc.ok : Nat → Doc → Prop
  | 0, _ => False
  | n + 1, .mk x l => Nm x ∧ l.length ≤ 1000 ∧ ∀ k ∈ l, k.ok n
def Doc.at : Doc → List Int → Option Doc
  | d, [] => some d
  | d, k :: r => if 0 ≤ k then match d.ks[k.toNat]? with
    | some c => c.at r
    | none => none else none
theorem at_app : ∀ (d : Doc) (a b : List Int), d.at (a ++ b) = (d.at a).bind fun c => c.at b
  | d, [], b => by simp [Doc.at]
  | d, k :: r, b => by
    rw [List.cons_append, Doc.at, Doc.at]
    split
    · split
      · rename_i c e
        exact at_app c r b
      · rfl
    · rfl
theorem at_one (d : Doc) (k : Int) : d.at [k] = if 0 ≤ k then d.ks[k.toNat]? else none := by
  rw [Doc.at]
  split
  · split
    · rename_i c e; rw [e, Doc.at]
    · rename_i e; rw [e]
  · rfl
/-- the children of the k-th -/
def isKid (pn : Nat → Nat) (k j : Nat) : Bool := decide (0 < j ∧ pn j = k)
def kids (pn : Nat → Nat) (n k : Nat) : List Nat := (List.range n).filter (isKid pn k)
def kidsF (pn : Nat → Nat) (n m k : Nat) : List Nat := (List.range' m (n - m)).filter (isKid pn k)
def cntF (pn : Nat → Nat) (k p : Nat) : Nat := ((List.range k).filter (isKid pn p)).length
def PnOk (pn : Nat → Nat) (n : Nat) : Prop := ∀ j, 0 < j → j < n → pn j < j
theorem kids_mem {pn : Nat → Nat} {n k j : Nat} (h : j ∈ kids pn n k) : j < n ∧ 0 < j ∧ pn j = k := by
  unfold kids at h
  rw [List.mem_filter, List.mem_range] at h
  exact ⟨h.1, of_decide_eq_true h.2⟩
theorem range_cut {k n : Nat} (h : k ≤ n) : List.range n = List.range k ++ List.range' k (n - k) := by
  have e : n = k + (n - k) := by omega
  rw [List.range_eq_range', List.range_eq_range']
  have := List.range'_append_1 (s := 0) (m := k) (n := n - k)
  rw [Nat.zero_add, ← e] at this
  exact this.symm
theorem kid_at {pn : Nat → Nat} {n k : Nat} (h0 : 0 < k) (h1 : k < n) : (kids pn n (pn k))[cntF pn k (pn k)]? = some k := by
  unfold kids cntF
  rw [range_cut (Nat.le_of_lt h1), List.filter_append, List.getElem?_append_right (Nat.le_refl _), Nat.sub_self]
  have e : n - k = (n - (k + 1)) + 1 := by omega
  have t : isKid pn (pn k) k = true := by unfold isKid; simp [h0]
  rw [e, List.range'_succ, List.filter_cons, if_pos t]
  rfl
theorem cnt_le {pn : Nat → Nat} {k p : Nat} : cntF pn k p ≤ k := by
  unfold cntF
  have := List.length_filter_le (isKid pn p) (List.range k)
  simpa using this
theorem kids_len {pn : Nat → Nat} {n k : Nat} : (kids pn n k).length ≤ n := cnt_le
/-- documents by their children -/
def DocsF (pn : Nat → Nat) (n m : Nat) (f : Nat → Doc) : Prop := ∀ j, m ≤ j → j < n → ∃ x, Nm x ∧ f j = .mk x ((kids pn n j).map f)
theorem DocsF.put {pn : Nat → Nat} {n m : Nat} {f : Nat → Doc} (hp : PnOk pn n) (h : DocsF pn n (m + 1) f) {x : Str} (hx : Nm x) : DocsF pn n m (fun i => if i = m then .mk x ((kids pn n m).map f) else f i) := fun j h1 h2 => by
  have key : (kids pn n j).map (fun i => if i = m then .mk x ((kids pn n m).map f) else f i) = (kids pn n j).map f := by
    refine List.map_congr_left fun i hi => ?_
    obtain ⟨a, b, c⟩ := kids_mem hi
    have := hp i b a
    rw [if_neg (by omega)]
  by_cases e : j = m
  · subst e
    rw [key]
    dsimp only
    rw [if_pos rfl]
    exact ⟨x, hx, rfl⟩
  · rw [key]
    dsimp only
    rw [if_neg e]
    exact h j (by omega) h2
theorem DocsF.ok {pn : Nat → Nat} {n : Nat} {f : Nat → Doc} (hp : PnOk pn n) (hn : n ≤ 1000) (h : DocsF pn n 0 f) : ∀ (t j : Nat), n ≤ j + t → j < n → (f j).ok t
  | 0, j, h1, h2 => by omega
  | t + 1, j, h1, h2 => by
    obtain ⟨x, hx, e⟩ := h j (Nat.zero_le _) h2
    rw [e]
    refine ⟨hx, ?_, ?_⟩
    · rw [List.length_map]
      exact Nat.le_trans kids_len hn
    · intro k hk
      obtain ⟨i, hi, rfl⟩ := List.mem_map.mp hk
      obtain ⟨a, b, c⟩ := kids_mem hi
      have := hp i b a
      exact DocsF.ok hp hn h t i (by omega) a
/-- places -/
def PlF (pn : Nat → Nat) (n : Nat) (q : Nat → List Int) : Prop := q 0 = [] ∧ ∀ k, 0 < k → k < n → q k = q (pn k) ++ [(cntF pn k (pn k) : Int)]
theorem PlF.put {pn : Nat → Nat} {n : Nat} {q : Nat → List Int} (hp : PnOk pn (n + 1)) (hn : 0 < n) (h : PlF pn n q) : PlF pn (n + 1) (fun i => if i = n then q (pn n) ++ [(cntF pn n (pn n) : Int)] else q i) := ⟨by dsimp only; rw [if_neg (by omega)]; exact h.1, fun k h0 h1 => by
  dsimp only
  have := hp k h0 h1
  by_cases e : k = n
  · subst e
    rw [if_pos rfl, if_neg (by omega)]
  · rw [if_neg e, if_neg (by omega)]
    exact h.2 k h0 (by omega)⟩
theorem stands {pn : Nat → Nat} {n : Nat} {f : Nat → Doc} {q : Nat → List Int} (hp : PnOk pn n) (hf : DocsF pn n 0 f) (hq : PlF pn n q) : ∀ (m k : Nat), k ≤ m → k < n → (f 0).at (q k) = some (f k)
  | 0, k, h1, h2 => by
    have : k = 0 := by omega
    subst this
    rw [hq.1, Doc.at]
  | m + 1, k, h1, h2 => by
    by_cases h0 : k = 0
    · subst h0
      rw [hq.1, Doc.at]
    · have hk := hp k (by omega) h2
      rw [hq.2 k (by omega) h2, at_app, stands hp hf hq m (pn k) (by omega) (by omega), Option.bind_some, at_one, if_pos (by omega)]
      obtain ⟨x, _, e⟩ := hf (pn k) (Nat.zero_le _) (by omega)
      rw [e]
      show ((kids pn n (pn k)).map f)[((cntF pn k (pn k) : Nat) : Int).toNat]? = some (f k)
      rw [Int.toNat_natCast, List.getElem?_map, kid_at (by omega) h2]
      rfl
end
section
open PySem L2

def pnOf (ps : List Int) : Nat → Nat := fun j => (ps.getD j 0).toNat
theorem Par.pn {ps : List Int} (h : Par ps) : PnOk (pnOf ps) ps.length := fun j h0 h1 => by
  have e := List.getElem?_eq_getElem (l := ps) (i := j) h1
  have := h.2 j _ h0 e
  unfold pnOf
  rw [List.getD_eq_getElem?_getD, e]
  simp; omega
theorem Par.val {ps : List Int} (h : Par ps) {j : Nat} {p : Int} (e : ps[j]? = some p) : p = (pnOf ps j : Int) := by
  unfold pnOf
  rw [List.getD_eq_getElem?_getD, e]
  rcases Nat.eq_zero_or_pos j with z | z
  · subst z
    rw [h.1] at e
    cases e
    rfl
  · have := h.2 j p z e
    simp; omega
theorem getE {α : Type} {l : List α} {i : Nat} (h : i < l.length) : l[i]? = some l[i] := List.getElem?_eq_getElem h
/-! ### the program's defs -/
end
section
open PySem L2

theorem CellP.small {c : Int} (h0 : 0 ≤ c) (h1 : c < 2147483648) : CellP c := ⟨cell_small h0 h1, h0⟩
def Smalls (zs : List Int) : Prop := ∀ z ∈ zs, 0 ≤ z ∧ z < 1000000000
/-- a little more than a cell -/
def CellQ (c : Int) : Prop := Builtin.Int.intBits c ≤ 1048576 + 64 ∧ 0 ≤ c
theorem CellP.q {c : Int} (h : CellP c) : CellQ c := ⟨Nat.le_trans h.1 (by decide), h.2⟩
theorem CellQ.small {c : Int} (h0 : 0 ≤ c) (h1 : c < 2147483648) : CellQ c := (CellP.small h0 h1).q
theorem bits_lt' (n : Nat) : n < 2 ^ Builtin.Int.intBits (n : Int) := by
  unfold Builtin.Int.intBits
  split
  · rename_i hz
    have : n = 0 := by simpa using hz
    subst this
    decide
  · rename_i hz
    rw [Int.natAbs_natCast]
    exact Nat.lt_log2_self
theorem pow_more {n k B : Nat} (h : n < 2 ^ B) (hk : k < 2147483648) : n + k < 2 ^ (B + 64) := by
  rw [Nat.pow_add]
  have e2 : (1 : Nat) ≤ 2 ^ B := Nat.one_le_two_pow
  have h64 : (2 : Nat) ^ 64 = 18446744073709551616 := by decide
  rw [h64]
  omega
theorem CellP.add {c k : Int} (h : CellP c) (h0 : 0 ≤ k) (h1 : k < 2147483648) : CellQ (c + k) := by
  have hc := h.2
  refine ⟨bits_lt ?_, by omega⟩
  have e := bits_lt' c.toNat
  rw [Int.toNat_of_nonneg hc] at e
  have e1 := pow_more (k := k.toNat) (Nat.lt_of_lt_of_le e (Nat.pow_le_pow_right (n := 2) (by decide) h.1)) (by omega)
  have e2 : (c + k).natAbs = c.toNat + k.toNat := by omega
  rw [e2]
  exact e1
end
section
open PySem L2

theorem inD_strs {x : Str} {l : List Str} {b : D} {h : MH} (e : seqOf h b = some (l.map .str)) (hb : ∀ z, b ≠ .str z) : inD (.str x) b h = some (decide (x ∈ l)) := by
  have h1 : ((l.map D.str).all flatD) = true := by
    rw [List.all_eq_true]
    intro d hd
    obtain ⟨y, _, rfl⟩ := List.mem_map.mp hd
    rfl
  have h2 : ((l.map D.str).any fun y => eqF y (.str x)) = decide (x ∈ l) := by
    rw [Bool.eq_iff_iff, List.any_eq_true, decide_eq_true_iff]
    constructor
    · rintro ⟨d, hd, e⟩
      obtain ⟨y, hy, rfl⟩ := List.mem_map.mp hd
      have : y = x := by simpa [eqF] using e
      exact this ▸ hy
    · intro hx
      exact ⟨.str x, List.mem_map.mpr ⟨x, hx, rfl⟩, by simp [eqF]⟩
  cases b with
  | str z => exact absurd rfl (hb z)
  | _ => simp only [inD, e, flatD, h1, and_self, if_true, h2]
section
variable {x : Str} {l : List Str} {h : MH} {Q : D → MH → Prop} {E : XE}
theorem w_ninTs (q : Q (.bl (!decide (x ∈ l))) h) : Sat (dNotIn (.str x) (.tup (l.map .str)) h) Q E := w_eq (by simp only [dNotIn, inD_strs (x := x) (l := l) (b := .tup (l.map .str)) (h := h) rfl (fun z => by simp)]) q
end
end
section
open PySem L2
def gmD (fs ns : List Str) (st : List Int) (sp : List (List Int)) (mk : List Int) : D := .tup [.tup (fs.map .str), .tup (ns.map .str), .tup (st.map .int), .tup (sp.map fun r => .tup (r.map .int)), .tup (mk.map .int)]
structure GOk (m : Nat) (fs ns : List Str) (st : List Int) (sp : List (List Int)) (mk : List Int) : Prop where
  n1 : 1 ≤ sp.length
  nm : sp.length ≤ m
  row : ∀ r ∈ sp, r.length = sp.length ∧ ∀ z ∈ r, 0 ≤ z ∧ z < (sp.length : Int)
  stl : st.length = ns.length + 1
  stv : ∀ z ∈ st, 0 ≤ z ∧ z < (sp.length : Int)
  mkl : mk.length = sp.length
  mkv : ∀ z ∈ mk, 0 ≤ z ∧ z < 2 ^ fs.length
end
section
open PySem L2
end
section
open PySem L2

def badOf (fs : List Str) (w : Int) (new f o : Str) : Str := if f ∉ fs then f else if w < 2 ∧ o ∉ fs then o else if new ∈ fs then new else Str.ofString ""
theorem fidx_mem {x : Str} : ∀ {l : List Str}, x ∈ l → ∃ j, fidx x l = some j
  | y :: l, h => by
    unfold fidx
    by_cases e : y = x
    · exact ⟨0, by rw [if_pos e]⟩
    · rw [if_neg e]
      obtain ⟨j, ej⟩ := fidx_mem (x := x) (l := l) (by rcases List.mem_cons.mp h with z | z; exact absurd z.symm e; exact z)
      exact ⟨j + 1, by rw [ej]; rfl⟩
theorem fidx_lt2 {x : Str} {nl : List Str} {j : Nat} (e : fidx x nl = some j) : j < nl.length := (List.getElem?_eq_some_iff.mp (fidx_some e).1).1
theorem w_tidx2 {x : Str} {nl : List Str} {j : Nat} {h : MH} {Q : D → MH → Prop} {E : XE} (e : fidx x nl = some j) (q : Q (.int j) h) : Sat (dTIdx (.tup (nl.map .str)) (.str x) h) Q E := by
  refine w_eq ?_ q
  simp only [dTIdx, allStr_map, e]
theorem cc_bitof {fs ns : List Str} {st : List Int} {sp : List (List Int)} {mk : List Int} {f : Str} (hfl : fs.length ≤ 1000) {h : MH} : Sat (m_bit_of_97f34 [gmD fs ns st sp mk, .str f] h) (fun d h' => h' = h ∧ ∃ j : Nat, fidx f fs = some j ∧ d = .int (2 ^ j)) (fun x l h' => h' = h ∧ x = Str.ofString "NoForm" ∧ l = [(Str.ofString "form", .str f)] ∧ f ∉ fs) := by
  unfold gmD
  walk_at "fn"
  refine w_ninTs ?_
  by_cases c1 : f ∈ fs
  · rw [decide_eq_true c1]
    obtain ⟨j, ej⟩ := fidx_mem c1
    have hj := fidx_lt2 ej
    walk_at "go"
    refine ⟨_, rfl, ?_⟩
    walk_at "go"
    refine w_tidx2 ej ?_
    walk_at "go"
    refine w_shl ⟨by omega, by decide⟩ ?_
    rw [Int.one_mul]
    exact ⟨rfl, j, ej, rfl⟩
  · rw [decide_eq_false c1]
    walk_at "go"
    exact ⟨rfl, rfl, rfl, c1⟩
end
section
open PySem L2
/-- the bit j of m is set -/
def bt (m : Int) (j : Nat) : Bool := m.toNat.testBit j
theorem bt_div {m : Int} (hm : 0 ≤ m) (j : Nat) : bt m j = decide (m / 2 ^ j % 2 = 1) := by
  obtain ⟨k, rfl⟩ := Int.eq_ofNat_of_zero_le hm
  unfold bt
  rw [Int.toNat_natCast, Nat.testBit_eq_decide_div_mod_eq]
  rw [decide_eq_decide]
  constructor
  · intro h
    have : ((k / 2 ^ j % 2 : Nat) : Int) = 1 := by rw [h]; rfl
    simpa using this
  · intro h
    have : ((k / 2 ^ j % 2 : Nat) : Int) = 1 := by simpa using h
    omega
theorem band_nat {a b : Int} (ha : 0 ≤ a) (hb : 0 ≤ b) : Builtin.bitAnd a b = ((a.toNat &&& b.toNat : Nat) : Int) := by
  unfold Builtin.bitAnd
  rw [decide_eq_true ha, decide_eq_true hb]
theorem pow_nat (j : Nat) : ((2 : Int) ^ j).toNat = 2 ^ j := by
  have : ((2 : Int) ^ j) = ((2 ^ j : Nat) : Int) := by simp
  rw [this, Int.toNat_natCast]
theorem and_pow0 (n j : Nat) : n &&& 2 ^ j = 0 ↔ n.testBit j = false := by
  constructor
  · intro h
    have := congrArg (fun z => Nat.testBit z j) h
    simpa [Nat.testBit_and, Nat.testBit_two_pow_self] using this
  · intro h
    refine Nat.eq_of_testBit_eq fun k => ?_
    rw [Nat.testBit_and, Nat.testBit_two_pow, Nat.zero_testBit]
    by_cases e : j = k
    · subst e; simp [h]
    · simp [e]
theorem band_pow {m : Int} (hm : 0 ≤ m) (j : Nat) : decide (Builtin.bitAnd m (2 ^ j) = 0) = !bt m j := by
  rw [band_nat hm (Int.le_of_lt (Int.pow_pos (by decide))), pow_nat]
  have h := and_pow0 m.toNat j
  unfold bt
  cases e : m.toNat.testBit j with
  | true => rw [e] at h; exact decide_eq_false fun z => by have := h.mp (by omega); cases this
  | false => exact decide_eq_true (by have := h.mpr e; omega)
end
section
open PySem L2

def mkN (t : Int) : List Int → List Bool → List Int
  | m :: ms, b :: bs => (m + t * (if b then 1 else 0)) :: mkN t ms bs
  | _, _ => []
theorem take_snoc {α : Type} {l : List α} {k : Nat} {x : α} (e : l[k]? = some x) : l.take (k + 1) = l.take k ++ [x] := by
  rw [List.take_succ, e]; rfl
/-! equal values -/
def PyL (n k : Nat) (h : MH) (d : D) : Prop := ∃ e, pyOf n h d = some e ∧ PyData.canLay0 e = true ∧ PyData.depth e ≤ k
theorem pyL_all {n k : Nat} {h : MH} : ∀ {l : List D}, (∀ x ∈ l, PyL n k h x) → ∃ es, allSome (l.map (pyOf n h)) = some es ∧ PyData.canLayAll0 es = true ∧ PyData.depthAll es ≤ k
  | [], _ => ⟨[], rfl, rfl, Nat.zero_le _⟩
  | x :: l, hx => by
    obtain ⟨e, e1, e2, e3⟩ := hx x List.mem_cons_self
    obtain ⟨es, f1, f2, f3⟩ := pyL_all (l := l) fun y hy => hx y (List.mem_cons_of_mem _ hy)
    refine ⟨e :: es, ?_, ?_, ?_⟩
    · rw [List.map_cons, e1, allSome, f1]; rfl
    · rw [PyData.canLayAll0, e2, f2]; rfl
    · rw [PyData.depthAll]; omega
theorem PyL.tup {n k : Nat} {h : MH} {l : List D} (hl : ∀ x ∈ l, PyL n k h x) : PyL (n + 1) (k + 1) h (.tup l) := by
  obtain ⟨es, f1, f2, f3⟩ := pyL_all hl
  exact ⟨.tuple es, by rw [pyOf, f1]; rfl, by rw [PyData.canLay0]; exact f2, by rw [PyData.depth]; omega⟩
theorem PyL.mono {n k m : Nat} {h : MH} {d : D} (p : PyL n k h d) (q : k ≤ m) : PyL n m h d := by
  obtain ⟨e, e1, e2, e3⟩ := p
  exact ⟨e, e1, e2, by omega⟩
theorem Nm.ok {x : Str} (h : Nm x) : OkS x := fun c hc => by
  have := h.2.2 c hc
  unfold Ltr at this
  omega
end
section
open PySem L2

def btf (fs : List Str) (f : Str) (m : Int) : Bool := match fidx f fs with
  | some j => bt m j
  | none => false
def tru (w : Int) (fs : List Str) (f o : Str) (m : Int) : Bool := if w = 0 then btf fs f m && btf fs o m else if w = 1 then btf fs f m || btf fs o m else !btf fs f m
def isBad (fs : List Str) (w : Int) (new f o : Str) : Prop := f ∉ fs ∨ (w < 2 ∧ o ∉ fs) ∨ new ∈ fs
theorem maps_all {α : Type} {ys : List D} {l : List α} {g : α → D} (hl : ys.length = l.length) (h : ∀ (i : Nat) y, ys[i]? = some y → ∃ m, l[i]? = some m ∧ y = g m) : ys = l.map g := by
  refine List.ext_getElem? fun i => ?_
  rw [List.getElem?_map]
  cases e : ys[i]? with
  | some y =>
    obtain ⟨m, e1, rfl⟩ := h i y e
    rw [e1]; rfl
  | none =>
    have : l.length ≤ i := by rw [← hl]; exact List.getElem?_eq_none_iff.mp e
    rw [List.getElem?_eq_none_iff.mpr this]; rfl
section
variable {fs ns : List Str} {st : List Int} {sp : List (List Int)} {mk : List Int} {new f o : Str} {h : MH}
abbrev askOk (h : MH) (fs ns : List Str) (st : List Int) (sp : List (List Int)) (mk : List Int) (w : Int) (new f o : Str) : D → MH → Prop := fun d h' => h <+: h' ∧ ¬ isBad fs w new f o ∧ d = gmD (fs ++ [new]) ns st sp (mkN (2 ^ fs.length) mk (mk.map (tru w fs f o)))
abbrev askNo (h : MH) (fs : List Str) (w : Int) (new f o : Str) : XE := fun x l h' => h <+: h' ∧ isBad fs w new f o ∧ x = Str.ofString "NoForm" ∧ l = [(Str.ofString "form", .str (badOf fs w new f o))]
end
section
variable {Q : D → MH → Prop} {E : XE} {h : MH}
end
section
variable {fs ns : List Str} {st : List Int} {sp : List (List Int)} {mk : List Int} {new f o : Str} {h : MH}
theorem Nm.ne {x : Str} (h : Nm x) : x ≠ Str.ofString "" := by
  rintro rfl
  exact absurd h.1 (by decide)
end
end
section
open PySem L2
/-! sizes of states, plain -/
abbrev Tb := List (Option Nat)
def oD : Option Nat → D
  | none => .non
  | some z => .int (z : Int)
def nx (sp : List (List Int)) (p q : Nat) : Nat := ((sp.getD p []).getD q 0).toNat
def cnt : Tb → Nat
  | [] => 0
  | none :: t => cnt t
  | some _ :: t => cnt t + 1
def wt : Option Nat → Nat
  | none => 36893488147419103232
  | some z => z
def meas : Tb → Nat
  | [] => 0
  | o :: t => wt o + meas t
theorem cntLe : ∀ t : Tb, cnt t ≤ t.length
  | [] => Nat.le_refl _
  | none :: t => by have := cntLe t; simp only [cnt, List.length_cons]; omega
  | some _ :: t => by have := cntLe t; simp only [cnt, List.length_cons]; omega
theorem cntPos : ∀ {t : Tb} {s z : Nat}, t[s]? = some (some z) → 1 ≤ cnt t
  | none :: t, 0, z, h => by simp at h
  | some _ :: t, s, z, h => by simp only [cnt]; omega
  | none :: t, s + 1, z, h => by
    rw [List.getElem?_cons_succ] at h
    exact cntPos (t := t) h
theorem cntSet : ∀ {t : Tb} {s : Nat} {o : Option Nat} (z : Nat), t[s]? = some o → cnt t ≤ cnt (t.set s (some z)) ∧ (o = none → cnt (t.set s (some z)) = cnt t + 1)
  | none :: t, 0, o, z, h => by
    simp only [List.set_cons_zero, cnt]
    exact ⟨by omega, fun _ => by first | rfl | trivial⟩
  | some _ :: t, 0, o, z, h => by
    simp at h
    subst h
    simp only [List.set_cons_zero, cnt]
    exact ⟨by omega, fun e => by cases e⟩
  | none :: t, s + 1, o, z, h => by
    rw [List.getElem?_cons_succ] at h
    simp only [List.set_cons_succ, cnt]
    exact cntSet (t := t) z h
  | some _ :: t, s + 1, o, z, h => by
    rw [List.getElem?_cons_succ] at h
    simp only [List.set_cons_succ, cnt]
    have := cntSet (t := t) z h
    exact ⟨by omega, fun e => by have := this.2 e; omega⟩
theorem meas_set : ∀ {t : Tb} {s : Nat} {o : Option Nat} {z : Nat}, t[s]? = some o → z < wt o → meas (t.set s (some z)) < meas t
  | a :: t, 0, o, z, h, hz => by
    simp at h
    subst h
    simp only [List.set_cons_zero, meas]
    have : wt (some z) = z := rfl
    omega
  | a :: t, s + 1, o, z, h, hz => by
    rw [List.getElem?_cons_succ] at h
    have := meas_set (t := t) h hz
    simp only [List.set_cons_succ, meas]
    omega
theorem meas_le : ∀ {t : Tb}, (∀ o ∈ t, wt o ≤ 36893488147419103232) → meas t ≤ t.length * 36893488147419103232
  | [], _ => Nat.zero_le _
  | o :: t, h => by
    have h1 := h o List.mem_cons_self
    have h2 := meas_le (t := t) fun x hx => h x (List.mem_cons_of_mem _ hx)
    simp only [meas, List.length_cons]
    omega
structure SInv (st : List Int) (sp : List (List Int)) (t : Tb) : Prop where
  len : t.length = sp.length
  pos : ∀ s z : Nat, t[s]? = some (some z) → 1 ≤ z ∧ 2 * z ≤ 2 ^ cnt t
  sta : ∀ s : Nat, (s : Int) ∈ st → t[s]? = some (some 1)
  sup : ∀ s z : Nat, t[s]? = some (some z) → (z = 1 ∧ (s : Int) ∈ st) ∨ ∃ p q a b : Nat, t[p]? = some (some a) ∧ t[q]? = some (some b) ∧ nx sp p q = s ∧ a + b ≤ z
def okp (sp : List (List Int)) (t : Tb) (p q : Nat) : Prop := ∀ a b : Nat, t[p]? = some (some a) → t[q]? = some (some b) → ∃ c : Nat, t[nx sp p q]? = some (some c) ∧ c ≤ a + b
def closed (sp : List (List Int)) (t : Tb) : Prop := ∀ p q, okp sp t p q
theorem get_set {α : Type} {l : List α} {s : Nat} (x : α) (hs : s < l.length) (r : Nat) : (l.set s x)[r]? = if s = r then some x else l[r]? := by
  rw [List.getElem?_set]
  split
  · rename_i e; subst e; simp [hs]
  · rfl
theorem SInv.upd {st : List Int} {sp : List (List Int)} {t : Tb} {p q a b s : Nat} {o : Option Nat} (i : SInv st sp t) (hp : t[p]? = some (some a)) (hq : t[q]? = some (some b)) (es : nx sp p q = s) (eo : t[s]? = some o) (c : o = none ∨ ∃ z, o = some z ∧ a + b < z) : SInv st sp (t.set s (some (a + b))) := by
  have hs := (List.getElem?_eq_some_iff.mp eo).1
  have g := fun r => get_set (l := t) (some (a + b)) hs r
  have ha := i.pos p a hp
  have hb := i.pos q b hq
  have hc := cntSet (a + b) eo
  have hpow := Nat.pow_le_pow_right (n := 2) (by decide) hc.1
  have nep : s ≠ p := by
    rintro rfl
    rw [eo] at hp
    rcases c with c | ⟨z, c, cz⟩
    · rw [c] at hp; simp at hp
    · rw [c] at hp; simp at hp; omega
  have neq : s ≠ q := by
    rintro rfl
    rw [eo] at hq
    rcases c with c | ⟨z, c, cz⟩
    · rw [c] at hq; simp at hq
    · rw [c] at hq; simp at hq; omega
  have low : ∀ p' a' : Nat, t[p']? = some (some a') → ∃ a'' : Nat, (t.set s (some (a + b)))[p']? = some (some a'') ∧ a'' ≤ a' := by
    intro p' a' e
    rw [g]
    split
    · rename_i z
      subst z
      rw [eo] at e
      refine ⟨a + b, rfl, ?_⟩
      rcases c with c | ⟨z, c, cz⟩
      · rw [c] at e; simp at e
      · rw [c] at e; simp at e; omega
    · exact ⟨a', e, Nat.le_refl _⟩
  refine ⟨by rw [List.length_set]; exact i.len, fun r z hr => ?_, fun r hr => ?_, fun r z hr => ?_⟩
  · rw [g] at hr
    split at hr
    · simp at hr
      subst hr
      refine ⟨by omega, ?_⟩
      rcases c with c | ⟨z, c, cz⟩
      · rw [hc.2 c, Nat.pow_succ]; omega
      · rw [c] at eo
        have := i.pos s z eo
        omega
    · have := i.pos r z hr
      exact ⟨this.1, by omega⟩
  · have h1 := i.sta r hr
    rw [g]
    split
    · rename_i z
      subst z
      rw [eo] at h1
      rcases c with c | ⟨z, c, cz⟩
      · rw [c] at h1; simp at h1
      · rw [c] at h1; simp at h1; omega
    · exact h1
  · by_cases z2 : s = r
    · subst z2
      rw [g, if_pos rfl] at hr
      simp at hr
      subst hr
      refine .inr ⟨p, q, a, b, ?_, ?_, es, Nat.le_refl _⟩
      · rw [g, if_neg nep]; exact hp
      · rw [g, if_neg neq]; exact hq
    · rw [g, if_neg z2] at hr
      rcases i.sup r z hr with h1 | ⟨p', q', a', b', e1, e2, e3, e4⟩
      · exact .inl h1
      · obtain ⟨a'', f1, f2⟩ := low p' a' e1
        obtain ⟨b'', f3, f4⟩ := low q' b' e2
        exact .inr ⟨p', q', a'', b'', f1, f3, e3, by omega⟩
theorem SInv.lt {st : List Int} {sp : List (List Int)} {t : Tb} (i : SInv st sp t) (hn : sp.length ≤ 64) {s z : Nat} (e : t[s]? = some (some z)) : z ≤ 9223372036854775808 := by
  have h1 := (i.pos s z e).2
  have h2 := cntLe t
  have h3 := i.len
  have h4 := Nat.pow_le_pow_right (n := 2) (by decide) (show cnt t ≤ 64 by omega)
  have h5 : (2 : Nat) ^ 64 = 18446744073709551616 := by decide
  omega
theorem SInv.meas {st : List Int} {sp : List (List Int)} {t : Tb} (i : SInv st sp t) (hn : sp.length ≤ 64) : Mi.meas t < 1000000000000000000000000 := by
  have h1 := meas_le (t := t) (fun o ho => by
    cases o with
    | none => exact Nat.le_refl _
    | some z =>
      obtain ⟨s, e⟩ := List.mem_iff_getElem?.mp ho
      have := i.lt hn e
      show z ≤ _
      omega)
  have h2 := i.len
  omega
theorem oD_set (t : Tb) (s z : Nat) : (t.map oD).set s (.int (z : Int)) = (t.set s (some z)).map oD := by rw [List.map_set]; rfl
theorem tb_at {t : Tb} {s : Nat} {o : Option Nat} (e : t[s]? = some o) : atI (t.map oD) (s : Int) = some (oD o) := atI_at (by rw [List.getElem?_map, e]; rfl)
theorem ixN_nat {n k : Nat} (h : k < n) : ixN n (k : Int) = some k := by
  unfold ixN
  rw [if_pos (by omega), if_pos (by omega)]
  simp
/-- the table of steps -/
structure Rows (sp : List (List Int)) : Prop where
  row : ∀ r ∈ sp, r.length = sp.length ∧ ∀ z ∈ r, 0 ≤ z ∧ z < (sp.length : Int)
theorem Rows.at {sp : List (List Int)} (g : Rows sp) {p q : Nat} (hp : p < sp.length) (hq : q < sp.length) : ∃ r : List Int, atI (sp.map fun r => D.tup (r.map .int)) (p : Int) = some (.tup (r.map .int)) ∧ atI (r.map D.int) (q : Int) = some (.int (nx sp p q : Nat)) ∧ nx sp p q < sp.length := by
  have e1 := getE (l := sp) (i := p) hp
  obtain ⟨h1, h2⟩ := g.row _ (List.mem_of_getElem? e1)
  have e2 := getE (l := sp[p]) (i := q) (by omega)
  have h3 := h2 _ (List.mem_of_getElem? e2)
  have en : ((nx sp p q : Nat) : Int) = sp[p][q] := by
    unfold nx
    simp only [List.getD_eq_getElem?_getD, e1, e2, Option.getD_some]
    omega
  refine ⟨sp[p], atI_at (by rw [List.getElem?_map, e1]; rfl), ?_, by omega⟩
  rw [en]
  exact atI_at (by rw [List.getElem?_map, e2]; rfl)
theorem notN_non (h : MH) : dNotN .non .non h = .ok (.bl false) h := by rw [dNotN_ev]; rfl
theorem notN_int (i : Int) (h : MH) : dNotN (.int i) .non h = .ok (.bl true) h := by rw [dNotN_ev]; rfl
theorem isN_non (h : MH) : dIsN .non .non h = .ok (.bl true) h := by rw [dIsN_ev]; rfl
theorem isN_int (i : Int) (h : MH) : dIsN (.int i) .non h = .ok (.bl false) h := by rw [dIsN_ev]; rfl
end
section
open PySem L2

local macro_rules | `(tactic| walk_at "w") => `(tactic| first
  | with_reducible refine w_eq (notN_non _) ?_
  | with_reducible refine w_eq (notN_int _ _) ?_
  | with_reducible refine w_eq (isN_non _) ?_
  | with_reducible refine w_eq (isN_int _ _) ?_)
section
variable {fs ns : List Str} {st : List Int} {sp : List (List Int)} {mk : List Int}
theorem cc_lowered {h0 h : MH} {j : Nat} {t : Tb} (gr : Rows sp) (hn : sp.length ≤ 64) (ow : Own h0 h [(j, t.map oD)]) (iv : SInv st sp t) :
    Sat (m_lowered_0b90e [gmD fs ns st sp mk, .ref j] h) (fun d h' => ∃ (t' : Tb) (b : Bool), d = .bl b ∧ Own h0 h' [(j, t'.map oD)] ∧ SInv st sp t' ∧ (b = false → t' = t ∧ closed sp t) ∧ (b = true → meas t' < meas t)) noX := by
  have hlen := iv.len
  unfold gmD
  walk_at "fn"
  refine w_loop0 (fun k ρ h' => ∃ (t' : Tb) (b : Bool) (o3 o4 o5 o6 : Option D), ρ = [some (gmD fs ns st sp mk), some (.ref j), some (.bl b), o3, o4, o5, o6] ∧ Own h0 h' [(j, t'.map oD)] ∧ SInv st sp t' ∧ (b = false → t' = t ∧ ∀ p, p < k → ∀ q, okp sp t p q) ∧ (b = true → meas t' < meas t)) ⟨t, false, none, none, none, none, rfl, ow, iv, fun _ => ⟨rfl, fun p hp => by omega⟩, fun z => by cases z⟩ (fun _ _ _ _ => rfl) ?_ ?_
  · rintro p d ρ h1 hd ⟨t1, b1, o3, o4, o5, o6, rfl, ow1, iv1, hf1, ht1⟩
    obtain ⟨hp, rfl⟩ := rangeD_get hd
    rw [Int.toNat_natCast] at hp
    refine ⟨_, rfl, ?_⟩
    dsimp only [List.set]
    rw [Int.zero_add]
    have hlen1 := iv1.len
    walk_at "go"
    refine w_loop0 (fun k ρ h' => ∃ (t' : Tb) (b : Bool) (o4 o5 o6 : Option D), ρ = [some (gmD fs ns st sp mk), some (.ref j), some (.bl b), some (.int (p : Int)), o4, o5, o6] ∧ Own h0 h' [(j, t'.map oD)] ∧ SInv st sp t' ∧ (b = false → t' = t ∧ (∀ p', p' < p → ∀ q, okp sp t p' q) ∧ ∀ q, q < k → okp sp t p q) ∧ (b = true → meas t' < meas t)) ⟨t1, b1, o4, o5, o6, rfl, ow1, iv1, fun z => ⟨(hf1 z).1, (hf1 z).2, fun q hq => by omega⟩, ht1⟩ (fun _ _ _ _ => rfl) ?_ ?_
    · rintro q d ρ h2 hd ⟨t2, b2, o4, o5, o6, rfl, ow2, iv2, hf2, ht2⟩
      obtain ⟨hq, rfl⟩ := rangeD_get hd
      rw [Int.toNat_natCast] at hq
      refine ⟨_, rfl, ?_⟩
      have hlen2 := iv2.len
      unfold gmD
      dsimp only [List.set]
      rw [Int.zero_add]
      have e1 := getE (l := t2) (i := p) (by omega)
      have e2 := getE (l := t2) (i := q) (by omega)
      generalize t2[p] = o1 at *
      generalize t2[q] = o2 at *
      have a1 := tb_at e1
      have a2 := tb_at e2
      have keep : ∀ (o4 o5 o6 : Option D), okp sp t2 p q → ∃ (t' : Tb) (b : Bool) (p4 p5 p6 : Option D), [some (gmD fs ns st sp mk), some (D.ref j), some (.bl b2), some (.int (p : Int)), o4, o5, o6] = [some (gmD fs ns st sp mk), some (.ref j), some (.bl b), some (.int (p : Int)), p4, p5, p6] ∧ Own h0 h2 [(j, t'.map oD)] ∧ SInv st sp t' ∧ (b = false → t' = t ∧ (∀ p', p' < p → ∀ q, okp sp t p' q) ∧ ∀ r, r < q + 1 → okp sp t p r) ∧ (b = true → meas t' < meas t) := fun o4 o5 o6 hk => ⟨t2, b2, o4, o5, o6, rfl, ow2, iv2, fun z => by
        obtain ⟨h1, h2, h3⟩ := hf2 z
        refine ⟨h1, h2, fun r hr => ?_⟩
        by_cases e : r = q
        · subst e; rw [← h1]; exact hk
        · exact h3 r (by omega), ht2⟩
      cases o1 with
      | none =>
        rw [oD] at a1
        walk_at "go"
        exact keep _ _ _ fun a b h1 => by rw [e1] at h1; cases h1
      | some a =>
        rw [oD] at a1
        cases o2 with
        | none =>
          rw [oD] at a2
          walk_at "go"
          exact keep _ _ _ fun a b _ h1 => by rw [e2] at h1; cases h1
        | some b =>
          rw [oD] at a2
          obtain ⟨r, r1, r2, r3⟩ := gr.at (p := p) (q := q) (by omega) (by omega)
          have e3 := getE (l := t2) (i := nx sp p q) (by omega)
          generalize t2[nx sp p q] = o3 at *
          have a3 := tb_at e3
          have la := iv2.lt hn e1
          have lb := iv2.lt hn e2
          have done : ∀ (h9 : MH), (o3 = none ∨ ∃ z, o3 = some z ∧ a + b < z) → Own h0 h9 [(j, (t2.map oD).set (nx sp p q) (.int ((a : Int) + (b : Int))))] → ∀ (o4 o5 o6 : Option D), ∃ (t' : Tb) (b : Bool) (p4 p5 p6 : Option D), [some (gmD fs ns st sp mk), some (D.ref j), some (.bl true), some (.int (p : Int)), o4, o5, o6] = [some (gmD fs ns st sp mk), some (.ref j), some (.bl b), some (.int (p : Int)), p4, p5, p6] ∧ Own h0 h9 [(j, t'.map oD)] ∧ SInv st sp t' ∧ (b = false → t' = t ∧ (∀ p', p' < p → ∀ q, okp sp t p' q) ∧ ∀ r, r < q + 1 → okp sp t p r) ∧ (b = true → meas t' < meas t) := by
            intro h9 hc o9 o4 o5 o6
            rw [← Int.natCast_add, oD_set] at o9
            refine ⟨_, true, o4, o5, o6, rfl, o9, iv2.upd e1 e2 rfl e3 hc, fun z => (by cases z), fun _ => ?_⟩
            have hlt : meas (t2.set (nx sp p q) (some (a + b))) < meas t2 := meas_set e3 (by
              rcases hc with rfl | ⟨z, rfl, hz⟩
              · show a + b < 36893488147419103232
                omega
              · exact hz)
            cases b2 with
            | false => rw [(hf2 rfl).1] at hlt; rw [(hf2 rfl).1]; exact hlt
            | true => exact Nat.lt_trans hlt (ht2 rfl)
          cases o3 with
          | none =>
            rw [oD] at a3
            walk_at "go"
            refine o_set ow2 0 rfl (ixN_nat (by rw [List.length_map]; omega)) fun h9 o9 => ?_
            walk_at "go"
            exact done h9 (.inl rfl) o9 _ _ _
          | some c =>
            rw [oD] at a3
            walk_at "go"
            refine br_d (fun c1 => ?_) (fun c1 => ?_)
            · walk_at "go"
              refine o_set ow2 0 rfl (ixN_nat (by rw [List.length_map]; omega)) fun h9 o9 => ?_
              walk_at "go"
              exact done h9 (.inr ⟨c, rfl, by omega⟩) o9 _ _ _
            · walk_at "go"
              refine keep _ _ _ fun a' b' h1 h2 => ?_
              rw [e1] at h1
              rw [e2] at h2
              simp at h1 h2
              exact ⟨c, e3, by omega⟩
    · rintro ρ h2 ⟨t2, b2, o4, o5, o6, rfl, ow2, iv2, hf2, ht2⟩
      rw [rangeD_length, Int.toNat_natCast] at hf2
      refine ⟨t2, b2, _, o4, o5, o6, rfl, ow2, iv2, fun z => ?_, ht2⟩
      obtain ⟨h1, h2, h3⟩ := hf2 z
      refine ⟨h1, fun p' hp' q => ?_⟩
      by_cases e : p' = p
      · subst e
        intro a b ea eb
        have hq := (List.getElem?_eq_some_iff.mp eb).1
        exact h3 q (by omega) a b ea eb
      · exact h2 p' (by omega) q
  · rintro ρ h2 ⟨t2, b2, o3, o4, o5, o6, rfl, ow2, iv2, hf2, ht2⟩
    rw [rangeD_length, Int.toNat_natCast] at hf2
    walk_at "go"
    refine ⟨t2, b2, rfl, ow2, iv2, fun z => ?_, ht2⟩
    obtain ⟨h1, h2⟩ := hf2 z
    refine ⟨h1, fun p q a b ea eb => ?_⟩
    have hq := (List.getElem?_eq_some_iff.mp ea).1
    exact h2 p (by omega) q a b ea eb
theorem cc_sizes45 {h : MH} (gr : Rows sp) (hn : sp.length ≤ 64) (hst : ∀ z ∈ st, 0 ≤ z ∧ z < (sp.length : Int)) (hmk : mk.length = sp.length) :
    Sat (m_sizes_9dfee [gmD fs ns st sp mk] h) (fun d h' => h <+: h' ∧ ∃ t : Tb, d = .tup (t.map oD) ∧ SInv st sp t ∧ closed sp t) noX := by
  unfold gmD
  walk_at "fn"
  refine o_comp (fun _ y => y = .non) (Own.nil h) (by simp; omega) (fun _ _ => rfl) ?_ ?_
  · intro k d h3 hd hp
    rw [List.getElem?_map, Option.map_eq_some_iff] at hd
    obtain ⟨m, em, rfl⟩ := hd
    refine ⟨_, rfl, ?_⟩
    dsimp only [wipeD, List.set]
    walk_at "go"
    exact ⟨rfl, rfl⟩
  intro ys hy hys jF h1 o1
  rw [List.length_map, hmk] at hy
  have ey : ys = (List.replicate sp.length (none : Option Nat)).map oD := maps_all (g := oD) (by rw [List.length_replicate]; exact hy) fun i y e => ⟨none, by
    have := (List.getElem?_eq_some_iff.mp e).1
    rw [List.getElem?_replicate, if_pos (by omega)], hys i y e⟩
  subst ey
  walk_at "go"
  refine w_loop0 (fun k ρ h' => ∃ (t : Tb) (o2 : Option D), ρ = [some (gmD fs ns st sp mk), some (.ref jF), o2, none] ∧ Own h h' [(jF, t.map oD)] ∧ t.length = sp.length ∧ (∀ (s : Nat) z, t[s]? = some (some z) → z = 1 ∧ (s : Int) ∈ st) ∧ ∀ s : Nat, (s : Int) ∈ st.take k → t[s]? = some (some 1)) ⟨_, none, rfl, o1, by simp, fun s z hz => by
    rw [List.getElem?_replicate] at hz
    split at hz <;> simp at hz, fun s hs => by simp at hs⟩ (fun _ _ _ _ => rfl) ?_ ?_
  · rintro k d ρ h2 hd ⟨t, o2, rfl, ow, hl, h3, h4⟩
    rw [List.getElem?_map, Option.map_eq_some_iff] at hd
    obtain ⟨z, ez, rfl⟩ := hd
    have hz := hst z (List.mem_of_getElem? ez)
    obtain ⟨s, rfl⟩ : ∃ s : Nat, z = (s : Int) := ⟨z.toNat, by omega⟩
    refine ⟨_, rfl, ?_⟩
    dsimp only [List.set]
    walk_at "go"
    refine o_set ow 0 rfl (ixN_nat (by rw [List.length_map]; omega)) fun h9 o9 => ?_
    have e1 : (t.map oD).set s (.int 1) = (t.set s (some 1)).map oD := oD_set t s 1
    rw [List.set_cons_zero, e1] at o9
    refine ⟨_, _, rfl, o9, by rw [List.length_set]; exact hl, fun r z hr => ?_, fun r hr => ?_⟩
    · rw [get_set _ (by omega)] at hr
      split at hr
      · rename_i e; subst e; simp at hr
        exact ⟨hr.symm, List.mem_of_getElem? ez⟩
      · exact h3 r z hr
    · rw [get_set _ (by omega)]
      split
      · rfl
      · rename_i ne
        rw [take_snoc ez] at hr
        rcases List.mem_append.mp hr with q | q
        · exact h4 r q
        · rw [List.mem_singleton] at q; omega
  rintro ρ h2 ⟨t, o2, rfl, ow, hl, h3, h4⟩
  rw [List.length_map, List.take_length] at h4
  have iv : SInv st sp t := ⟨hl, fun s z hz => by
    obtain ⟨rfl, _⟩ := h3 s z hz
    have h5 := Nat.pow_le_pow_right (n := 2) (by decide) (cntPos hz)
    exact ⟨Nat.le_refl _, by omega⟩, h4, fun s z hz => .inl (h3 s z hz)⟩
  clear h3 h4 hl
  refine w_seq ?_
  refine w_while (fun m ρ h' => ∃ (t : Tb), ρ = [some (gmD fs ns st sp mk), some (.ref jF), o2, none] ∧ Own h h' [(jF, t.map oD)] ∧ SInv st sp t ∧ meas t = m) (meas t) (iv.meas hn) ⟨t, rfl, ow, iv, rfl⟩ ?_
  clear iv ow
  rintro m ρ h3 ⟨t, rfl, ow, iv, rfl⟩
  walk_at "go"
  refine (cc_lowered gr hn ow iv).mono ?_
  rintro d h4 ⟨t2, b, rfl, ow2, iv2, hf, ht⟩
  walk_at "go"
  cases b with
  | true =>
    walk_at "go"
    exact ⟨_, ht rfl, t2, rfl, ow2, iv2, rfl⟩
  | false =>
    walk_at "go"
    obtain ⟨rfl, hc⟩ := hf rfl
    exact ⟨ow2.pre, t2, rfl, iv2, hc⟩
end
end
section
open PySem L2

local macro_rules | `(tactic| walk_at "w") => `(tactic| first
  | with_reducible refine w_eq (notN_non _) ?_
  | with_reducible refine w_eq (notN_int _ _) ?_
  | with_reducible refine w_eq (isN_non _) ?_
  | with_reducible refine w_eq (isN_int _ _) ?_)
theorem inD_ints {x : Int} {l : List Int} {b : D} {h : MH} (e : seqOf h b = some (l.map .int)) (hb : ∀ z, b ≠ .str z) : inD (.int x) b h = some (decide (x ∈ l)) := by
  have h1 : ((l.map D.int).all flatD) = true := by
    rw [List.all_eq_true]
    intro d hd
    obtain ⟨y, _, rfl⟩ := List.mem_map.mp hd
    rfl
  have h2 : ((l.map D.int).any fun y => eqF y (.int x)) = decide (x ∈ l) := by
    rw [Bool.eq_iff_iff, List.any_eq_true, decide_eq_true_iff]
    constructor
    · rintro ⟨d, hd, e⟩
      obtain ⟨y, hy, rfl⟩ := List.mem_map.mp hd
      have : y = x := by simpa [eqF] using e
      exact this ▸ hy
    · intro hx
      exact ⟨.int x, List.mem_map.mpr ⟨x, hx, rfl⟩, by simp [eqF]⟩
  cases b with
  | str z => exact absurd rfl (hb z)
  | _ => simp only [inD, e, flatD, h1, and_self, if_true, h2]
theorem w_inTi {x : Int} {l : List Int} {h : MH} {Q : D → MH → Prop} {E : XE} (q : Q (.bl (decide (x ∈ l))) h) : Sat (dIn (.int x) (.tup (l.map .int)) h) Q E := w_eq (by simp only [dIn, inD_ints (x := x) (l := l) (b := .tup (l.map .int)) (h := h) rfl (fun z => by simp)]) q
section
variable {fs ns : List Str} {st : List Int} {sp : List (List Int)} {mk : List Int}
def sh0 (st : List Int) (t : Tb) (s : Nat) : Bool := decide ((s : Int) ∈ st) && decide (t[s]? = some (some 1))
def hit (sp : List (List Int)) (t : Tb) (p q : Nat) : Prop := ∃ a b, t[p]? = some (some a) ∧ t[q]? = some (some b) ∧ t[nx sp p q]? = some (some (a + b))
end
end
section
open PySem L2
/-- a machine that may be asked for sizes -/
def MOk (d : D) : Prop := ∃ (fs ns : List Str) (st : List Int) (sp : List (List Int)) (mk : List Int), d = gmD fs ns st sp mk ∧ sp.length ≤ 60 ∧ Rows sp ∧ (∀ z ∈ st, 0 ≤ z ∧ z < (sp.length : Int)) ∧ mk.length = sp.length
end
section
open PySem L2
/-! ### the least sizes by rounds -/
def oN : Option Nat → Nat
  | none => 0
  | some z => z
def lsB (t : Tb) (s u : Nat) : Bool := match t[u]?, t[s]? with
  | some (some a), some (some z) => decide (a < z)
  | _, _ => false
/-- how many states have less -/
def rk (t : Tb) (s : Nat) : Nat := ((List.range t.length).filter (lsB t s)).length
/-- a table that is sound, and right at a state -/
def Snd47 (t : Tb) (f : List Nat) : Prop := f.length = t.length ∧ ∀ s : Nat, f.getD s 0 ≠ 0 → ∃ z, t[s]? = some (some z) ∧ z ≤ f.getD s 0
def Ex47 (t : Tb) (f : List Nat) (s : Nat) : Prop := ∀ z, t[s]? = some (some z) → f.getD s 0 = z
section
variable {st : List Int} {sp : List (List Int)} {t : Tb}
end
abbrev zD (f : List Nat) : List D := f.map fun (z : Nat) => D.int (z : Int)
section
variable {fs ns : List Str} {st : List Int} {sp : List (List Int)} {mk : List Int}
end
end
end Mi
namespace Mi
open PySem L2
local macro_rules | `(tactic| walk_at "w") => `(tactic| first
  | with_reducible refine w_seq ?_
  | with_reducible refine w_asg ?_
  | with_reducible refine w_cons ?_
  | with_reducible refine w_nil ?_
  | with_reducible refine w_c ?_
  | ((with_reducible refine w_var (d := ?_) ?_ ?_); rotate_left; rfl)
  | with_reducible refine w_bin ?_
  | with_reducible refine w_call ?_
  | with_reducible refine w_if ?_
  | with_reducible refine w_B ?_
  | with_reducible refine w_unB ?_
  | with_reducible refine w_ret ?_
  | with_reducible refine w_drop ?_
  | with_reducible refine w_skip ?_
  | with_reducible refine w_eq (dAdd_int _ _ _) ?_
  | with_reducible refine w_eq (dSub_int _ _ _) ?_
  | with_reducible refine w_eq (dEq_int _ _ _) ?_
  | with_reducible refine w_eq (dEq_str _ _ _) ?_
  | with_reducible refine w_eq (dLt_int _ _ _) ?_
  | with_reducible refine w_eq (dLe_int _ _ _) ?_
  | with_reducible refine w_eq (dGt_int _ _ _) ?_
  | with_reducible refine w_eq (dGe_int _ _ _) ?_
  | with_reducible refine w_eq (dNe_int _ _ _) ?_
  | ((with_reducible refine w_mod ?_ ?_); (first | assumption | decide | omega))
  | ((with_reducible refine w_fdiv ?_ ?_); (first | assumption | decide | omega))
  | ((with_reducible refine w_mulS ?_ ?_); (first | decide | omega))
  | ((with_reducible refine w_addS ?_ ?_); (first | assumption | decide | omega))
  | ((with_reducible refine w_lenS ?_ ?_); (first | assumption | decide | omega))
  | ((with_reducible refine w_slS ?_ ?_); (first | assumption | decide | omega))
  | with_reducible refine w_eq (dLen_tup _ _) ?_
  | with_reducible refine w_eq (dSl_tup _ _ _ _) ?_
  | with_reducible refine w_eq (dMax_ev _ _ _) ?_
  | with_reducible refine w_eq (dMin_ev _ _ _) ?_
  | with_reducible refine w_eq (dAbs_ev _ _) ?_
  | with_reducible refine w_not ?_
  | with_reducible refine w_and ?_
  | with_reducible refine w_or ?_
  | with_reducible refine br_n ?_
  | with_reducible refine br_tt ?_
  | with_reducible refine br_ff ?_
  | ((with_reducible refine br_dt ?_ ?_); (first | assumption | omega))
  | ((with_reducible refine br_df ?_ ?_); (first | assumption | omega))
  | with_reducible refine w_tup ?_
  | ((with_reducible refine w_toTup ?_ ?_); exact (by simp))
  | with_reducible refine w_lst ?_
  | with_reducible refine w_lc ?_
  | with_reducible refine w_for ?_
  | with_reducible refine w_range1 ?_
  | with_reducible refine w_range2 ?_
  | ((with_reducible refine w_dR1 ?_ ?_); (first | decide | omega))
  | ((with_reducible refine w_dR2 ?_ ?_); (first | decide | omega))
  | with_reducible refine w_iter ?_
  | with_reducible refine w_eq (iter1_tup _ _) ?_
  | with_reducible refine w_eq (iter1_str _ _) ?_
  | with_reducible refine w_sl ?_
  | with_reducible refine w_no ?_
  | with_reducible refine w_some ?_
  | with_reducible refine w_unI ?_
  | with_reducible refine w_meth ?_
  | with_reducible refine w_isi ?_
  | with_reducible refine w_zip ?_
  | with_reducible refine w_ifE ?_
  | with_reducible refine w_andV ?_
  | with_reducible refine w_orV ?_
  | with_reducible refine w_notV ?_
  | with_reducible refine w_andK ?_
  | with_reducible refine w_orK ?_
  | with_reducible refine w_notK ?_
  | with_reducible refine w_revL ?_
  | with_reducible refine w_listRg1 ?_
  | with_reducible refine w_tindex ?_
  | with_reducible refine w_setIx ?_
  | with_reducible refine w_un ?_
  | with_reducible refine w_rev1 ?_
  | with_reducible refine w_rev2 ?_
  | with_reducible refine w_chain ?_
  | with_reducible refine w_chK ?_
  | with_reducible refine w_retN ?_
  | with_reducible refine w_brk ?_
  | with_reducible refine w_cont ?_
  | with_reducible refine w_asgT ?_
  | with_reducible refine w_eq (isi_str_str _ _) ?_
  | with_reducible refine w_eq (isi_int_int _ _) ?_
  | with_reducible refine w_eq (isi_tup_tup _ _) ?_)
local macro_rules | `(tactic| walk_at "go") => `(tactic| (repeat (walk_at "w")); try dsimp only [List.set])
local macro_rules | `(tactic| walk_at "fn") => `(tactic| ((refine w_fun ?_); simp only [startD, List.map_cons, List.map_nil, List.reduceReplicate, Nat.reduceSub, List.cons_append, List.nil_append]; walk_at "go"))
structure Tab (F K : List D) : Prop where
  fs : Wds 20 F
  fl : F.length ≤ 20
  k1 : 1 ≤ K.length
  k8 : K.length ≤ 8
  ks : InL (2 ^ F.length) K
theorem Wds.get {n : Nat} {l : List D} (h : Wds n l) {d : D} (hd : d ∈ l) : ∃ x, d = .str x ∧ Wd n x := by
  obtain ⟨ns, rfl, hn⟩ := h
  obtain ⟨x, hx, rfl⟩ := List.mem_map.mp hd
  exact ⟨x, rfl, hn x hx⟩
theorem Wds.nil (n : Nat) : Wds n [] := ⟨[], rfl, fun x hx => by simp at hx⟩
def nletters : Str := Str.ofString "nopqrstuvwxyzabcdefghijklm"
/-! the marks' forms -/
def sel (v : Int) (F : List D) : Nat → List D
  | 0 => []
  | k + 1 => sel v F k ++ match F[k]? with
    | some d => if v / 2 ^ k % 2 = 1 then [d] else []
    | none => []
abbrev HP := Nat × Nat × List D
def hCells (ps : List HP) : LL := ps.flatMap fun p => [(p.1, p.2.2), (p.2.1, p.2.2)]
def hItems (ps : List HP) : List D := ps.reverse.map fun p => .tup [.ref p.1, .ref p.2.1]
end Mi
namespace Mi
open PySem L2
local macro_rules | `(tactic| walk_at "w") => `(tactic| first
  | with_reducible refine w_seq ?_
  | with_reducible refine w_asg ?_
  | with_reducible refine w_cons ?_
  | with_reducible refine w_nil ?_
  | with_reducible refine w_c ?_
  | ((with_reducible refine w_var (d := ?_) ?_ ?_); rotate_left; rfl)
  | with_reducible refine w_bin ?_
  | with_reducible refine w_call ?_
  | with_reducible refine w_if ?_
  | with_reducible refine w_B ?_
  | with_reducible refine w_unB ?_
  | with_reducible refine w_ret ?_
  | with_reducible refine w_drop ?_
  | with_reducible refine w_skip ?_
  | with_reducible refine w_eq (dAdd_int _ _ _) ?_
  | with_reducible refine w_eq (dSub_int _ _ _) ?_
  | with_reducible refine w_eq (dEq_int _ _ _) ?_
  | with_reducible refine w_eq (dEq_str _ _ _) ?_
  | with_reducible refine w_eq (dLt_int _ _ _) ?_
  | with_reducible refine w_eq (dLe_int _ _ _) ?_
  | with_reducible refine w_eq (dGt_int _ _ _) ?_
  | with_reducible refine w_eq (dGe_int _ _ _) ?_
  | with_reducible refine w_eq (dNe_int _ _ _) ?_
  | ((with_reducible refine w_mod ?_ ?_); (first | assumption | decide | omega))
  | ((with_reducible refine w_fdiv ?_ ?_); (first | assumption | decide | omega))
  | ((with_reducible refine w_mulS ?_ ?_); (first | decide | omega))
  | ((with_reducible refine w_addS ?_ ?_); (first | assumption | decide | omega))
  | ((with_reducible refine w_lenS ?_ ?_); (first | assumption | decide | omega))
  | ((with_reducible refine w_slS ?_ ?_); (first | assumption | decide | omega))
  | with_reducible refine w_eq (dLen_tup _ _) ?_
  | with_reducible refine w_eq (dSl_tup _ _ _ _) ?_
  | with_reducible refine w_eq (dMax_ev _ _ _) ?_
  | with_reducible refine w_eq (dMin_ev _ _ _) ?_
  | with_reducible refine w_eq (dAbs_ev _ _) ?_
  | with_reducible refine w_not ?_
  | with_reducible refine w_and ?_
  | with_reducible refine w_or ?_
  | with_reducible refine br_n ?_
  | with_reducible refine br_tt ?_
  | with_reducible refine br_ff ?_
  | ((with_reducible refine br_dt ?_ ?_); (first | assumption | omega))
  | ((with_reducible refine br_df ?_ ?_); (first | assumption | omega))
  | with_reducible refine w_tup ?_
  | ((with_reducible refine w_toTup ?_ ?_); exact (by simp))
  | with_reducible refine w_lst ?_
  | with_reducible refine w_lc ?_
  | with_reducible refine w_for ?_
  | with_reducible refine w_range1 ?_
  | with_reducible refine w_range2 ?_
  | ((with_reducible refine w_dR1 ?_ ?_); (first | decide | omega))
  | ((with_reducible refine w_dR2 ?_ ?_); (first | decide | omega))
  | with_reducible refine w_iter ?_
  | with_reducible refine w_eq (iter1_tup _ _) ?_
  | with_reducible refine w_eq (iter1_str _ _) ?_
  | with_reducible refine w_sl ?_
  | with_reducible refine w_no ?_
  | with_reducible refine w_some ?_
  | with_reducible refine w_unI ?_
  | with_reducible refine w_meth ?_
  | with_reducible refine w_isi ?_
  | with_reducible refine w_zip ?_
  | with_reducible refine w_ifE ?_
  | with_reducible refine w_andV ?_
  | with_reducible refine w_orV ?_
  | with_reducible refine w_notV ?_
  | with_reducible refine w_andK ?_
  | with_reducible refine w_orK ?_
  | with_reducible refine w_notK ?_
  | with_reducible refine w_revL ?_
  | with_reducible refine w_listRg1 ?_
  | with_reducible refine w_tindex ?_
  | with_reducible refine w_setIx ?_
  | with_reducible refine w_un ?_
  | with_reducible refine w_rev1 ?_
  | with_reducible refine w_rev2 ?_
  | with_reducible refine w_chain ?_
  | with_reducible refine w_chK ?_
  | with_reducible refine w_retN ?_
  | with_reducible refine w_brk ?_
  | with_reducible refine w_cont ?_
  | with_reducible refine w_asgT ?_
  | with_reducible refine w_eq (isi_str_str _ _) ?_
  | with_reducible refine w_eq (isi_int_int _ _) ?_
  | with_reducible refine w_eq (isi_tup_tup _ _) ?_
  | with_reducible refine w_eq (isi_bool_int _ _) ?_
  | with_reducible refine w_eq (isi_str_int _ _) ?_
  | with_reducible refine w_eq (dNeg_int _ _) ?_)
local macro_rules | `(tactic| walk_at "go") => `(tactic| (repeat (walk_at "w")); try dsimp only [List.set])
local macro_rules | `(tactic| walk_at "fn") => `(tactic| ((refine w_fun ?_); simp only [startD, List.map_cons, List.map_nil, List.reduceReplicate, Nat.reduceSub, List.cons_append, List.nil_append]; walk_at "go"))
theorem InL.ints {m : Int} : ∀ {l : List D}, InL m l → ∃ zs : List Int, l = zs.map .int ∧ ∀ z ∈ zs, 0 ≤ z ∧ z < m
  | [], _ => ⟨[], rfl, fun z hz => by simp at hz⟩
  | d :: l, h => by
    obtain ⟨v, rfl, hv⟩ := h d List.mem_cons_self
    obtain ⟨zs, rfl, hz⟩ := InL.ints (l := l) fun e he => h e (List.mem_cons_of_mem _ he)
    refine ⟨v :: zs, rfl, fun z hm => ?_⟩
    rcases List.mem_cons.mp hm with rfl | hm
    · exact hv
    · exact hz z hm
theorem in_strs (x : Str) : ∀ nl : List Str, ((nl.map D.str).any fun y => eqF y (.str x)) = (fidx x nl).isSome
  | [] => rfl
  | y :: nl => by
    have ih := in_strs x nl
    have h1 : eqF (.str y) (.str x) = (y == x) := rfl
    rw [List.map_cons, List.any_cons, ih, h1, fidx]
    by_cases e : y = x
    · simp [e]
    · have : (y == x) = false := by simpa using e
      simp [e, this]
theorem flat_strs (nl : List Str) : ((nl.map D.str).all flatD) = true := by
  rw [List.all_eq_true]
  intro d hd
  obtain ⟨x, _, rfl⟩ := List.mem_map.mp hd
  rfl
theorem w_inT {x : Str} {nl : List Str} {h : MH} {Q : D → MH → Prop} {E : XE} (q : Q (.bl (fidx x nl).isSome) h) : Sat (dIn (.str x) (.tup (nl.map .str)) h) Q E := by
  refine w_eq ?_ q
  unfold dIn inD
  simp only [seqOf, flat_strs, in_strs]
  rfl
theorem fidx_lt {x : Str} {nl : List Str} {j : Nat} (e : fidx x nl = some j) : j < nl.length := (List.getElem?_eq_some_iff.mp (fidx_some e).1).1
theorem w_tidx {x : Str} {nl : List Str} {j : Nat} {h : MH} {Q : D → MH → Prop} {E : XE} (e : fidx x nl = some j) (q : Q (.int j) h) : Sat (dTIdx (.tup (nl.map .str)) (.str x) h) Q E := by
  refine w_eq ?_ q
  simp only [dTIdx, allStr_map, e]
def startI (nl : List Str) (sv : List Int) (x : Str) : Int := match fidx x nl with
  | some j => sv.getD j 0
  | none => sv.getLastD 0
theorem getD_mem {l : List Int} {j : Nat} (h : j < l.length) : l.getD j 0 ∈ l := by
  rw [List.getD_eq_getElem?_getD, List.getElem?_eq_getElem h]
  exact List.getElem_mem h
theorem at_last {sv : List Int} (h : 1 ≤ sv.length) : atI (sv.map D.int) (-1) = some (.int (sv.getLastD 0)) := by
  unfold atI ixN
  rw [if_neg (by decide), if_pos (by simp; omega)]
  have e : (-1 + ((sv.map D.int).length : Int)).toNat = sv.length - 1 := by simp; omega
  simp only [e, Option.bind_some]
  rw [List.getElem?_map]
  cases sv with
  | nil => simp at h
  | cons a l => 
    rw [← List.getLast?_eq_getElem?, List.getLastD_eq_getLast?]
    cases e : (a :: l).getLast? with
    | none => simp at e
    | some z => rfl
theorem at_nat {l : List Int} {j : Nat} (h : j < l.length) : atI (l.map D.int) (j : Int) = some (.int (l.getD j 0)) := by
  refine atI_at ?_
  rw [List.getElem?_map, List.getD_eq_getElem?_getD, List.getElem?_eq_getElem h]
  rfl
theorem startI_in {nl : List Str} {sv : List Int} {m : Int} (hs : ∀ z ∈ sv, 0 ≤ z ∧ z < m) (hl : sv.length = nl.length + 1) (x : Str) : 0 ≤ startI nl sv x ∧ startI nl sv x < m := by
  unfold startI
  split
  · rename_i j e
    have := fidx_lt e
    exact hs _ (getD_mem (by omega))
  · refine hs _ ?_
    cases sv with
    | nil => simp at hl
    | cons a l =>
      rw [List.getLastD_eq_getLast?]
      cases e : (a :: l).getLast? with
      | none => simp at e
      | some z => exact List.mem_of_getLast? e
def tAt (T : List D) (a b : Int) : Int := match T[a.toNat]? with
  | some (.tup l) => match l[b.toNat]? with
    | some (.int v) => v
    | _ => 0
  | _ => 0
theorem tAt_in {T : List D} {m : Int} (hl : (T.length : Int) = m) (hT : ∀ r ∈ T, ∃ l, r = .tup l ∧ (l.length : Int) = m ∧ InL m l) {a b : Int} (ha : 0 ≤ a ∧ a < m) (hb : 0 ≤ b ∧ b < m) : (0 ≤ tAt T a b ∧ tAt T a b < m) ∧ ∃ l, atI T a = some (.tup l) ∧ atI l b = some (.int (tAt T a b)) := by
  obtain ⟨r, e1, e2⟩ := atI_in (l := T) ha.1 (by omega)
  obtain ⟨l, rfl, hll, hi⟩ := hT r (List.mem_of_getElem? e2)
  obtain ⟨d, e3, e4⟩ := atI_in (l := l) hb.1 (by omega)
  obtain ⟨v, rfl, hv⟩ := hi d (List.mem_of_getElem? e4)
  have e : tAt T a b = v := by unfold tAt; simp only [e2, e4]
  rw [e]
  exact ⟨hv, l, e1, e3⟩
/-- a machine's tables, plainly -/
structure Mc (nl : List Str) (sv : List Int) (T : List D) (m : Int) : Prop where
  ss : ∀ z ∈ sv, 0 ≤ z ∧ z < m
  sl : sv.length = nl.length + 1
  tl : (T.length : Int) = m
  ts : ∀ r ∈ T, ∃ l, r = .tup l ∧ (l.length : Int) = m ∧ InL m l
abbrev tabD (F0 : D) (nl : List Str) (sv : List Int) (T : List D) (K0 : D) : D := .tup [F0, .tup (nl.map .str), .tup (sv.map .int), .tup T, K0]
section
variable {F0 K0 : D} {nl : List Str} {sv : List Int} {T : List D} {m : Int} {h : MH}
theorem c_start (M : Mc nl sv T m) (x : Str) : Sat (m_start_of_78275 [tabD F0 nl sv T K0, .str x] h) (fun d h' => h' = h ∧ d = .int (startI nl sv x)) noX := by
  have hl := M.sl
  walk_at "fn"
  refine w_ixT (i := 1) rfl ?_
  refine w_inT ?_
  walk_at "go"
  cases e : fidx x nl with
  | some j =>
    have hj := fidx_lt e
    refine br_t rfl ?_
    walk_at "go"
    refine w_ixT (i := 2) rfl ?_
    walk_at "go"
    refine w_ixT (i := 1) rfl ?_
    refine ⟨_, rfl, ?_⟩
    walk_at "go"
    refine w_tidx e ?_
    refine w_ixT (at_nat (by omega)) ⟨rfl, ?_⟩
    simp [startI, e]
  | none =>
    refine br_f (by simp) ?_
    walk_at "go"
    refine w_ixT (i := 2) rfl ?_
    walk_at "go"
    refine w_ixT (at_last (by omega)) ⟨rfl, ?_⟩
    simp [startI, e]
/-! documents by their places -/
abbrev KC := List (Nat × List Nat)
def cellsK (kc : KC) : LL := kc.map fun p => (p.1, p.2.map fun (j : Nat) => D.int (j : Int))
def KOk (kc : KC) : Prop := ∀ (a : Nat) p, kc[a]? = some p → ∀ j ∈ p.2, a < j ∧ j < kc.length
def DAt (docs : List D) (kc : KC) (a : Nat) : Prop := ∃ (p : Nat × List Nat) (x : Str) (ds : List D), kc[a]? = some p ∧ docs[a]? = some (.tup [.str x, .tup ds]) ∧ Wd 20 x ∧ ds.length = p.2.length ∧ ∀ (t j : Nat), p.2[t]? = some j → ds[t]? = docs[j]?
def SAt (nl : List Str) (sv : List Int) (T : List D) (docs : List D) (kc : KC) (sl : List Int) (a : Nat) : Prop := ∀ p x ds, kc[a]? = some p → docs[a]? = some (.tup [.str x, .tup ds]) → sl.getD a 0 = (p.2.map fun j => sl.getD j 0).foldl (tAt T) (startI nl sv x)
end
/-! the drawn documents -/
def KU (kc : KC) : Prop := (∀ (a b : Nat) (p q : Nat × List Nat) (j : Nat), kc[a]? = some p → kc[b]? = some q → j ∈ p.2 → j ∈ q.2 → a = b) ∧ ∀ p ∈ kc, p.2.Nodup
theorem kset_mem {kc : KC} {a k' b j : Nat} {p r : Nat × List Nat} (ep : kc[a]? = some p) (er : (kc.set a (p.1, p.2 ++ [k']))[b]? = some r) (hj : j ∈ r.2) : (b = a ∧ j = k') ∨ ∃ q, kc[b]? = some q ∧ j ∈ q.2 := by
  have hak := (List.getElem?_eq_some_iff.mp ep).1
  by_cases hab : a = b
  · subst hab
    rw [List.getElem?_set_self hak] at er
    cases er
    rcases List.mem_append.mp hj with hj | hj
    · exact .inr ⟨p, ep, hj⟩
    · exact .inl ⟨rfl, List.mem_singleton.mp hj⟩
  · rw [List.getElem?_set_ne hab] at er
    exact .inr ⟨r, er, hj⟩
theorem KU.app {kc : KC} (h : KU kc) {a k' : Nat} {p : Nat × List Nat} (ep : kc[a]? = some p) (hlt : ∀ q ∈ kc, ∀ j ∈ q.2, j < k') : KU (kc.set a (p.1, p.2 ++ [k'])) := by
  refine ⟨fun b1 b2 r1 r2 j e1 e2 h1 h2 => ?_, fun r hr => ?_⟩
  · rcases kset_mem ep e1 h1 with ⟨q1, q2⟩ | ⟨q1, q2, q3⟩ <;> rcases kset_mem ep e2 h2 with ⟨t1, t2⟩ | ⟨t1, t2, t3⟩
    · omega
    · have := hlt t1 (List.mem_of_getElem? t2) j t3; omega
    · have := hlt q1 (List.mem_of_getElem? q2) j q3; omega
    · exact h.1 _ _ _ _ j q2 t2 q3 t3
  · rcases List.mem_or_eq_of_mem_set hr with q | q
    · exact h.2 r q
    · rw [q]
      refine List.nodup_append.mpr ⟨h.2 p (List.mem_of_getElem? ep), by simp, fun x hx y hy => ?_⟩
      have := hlt p (List.mem_of_getElem? ep) x hx
      rw [List.mem_singleton.mp hy]
      omega
theorem DAt.keep {docs : List D} {kc : KC} (hk : KOk kc) {a b : Nat} {d : D} (hab : b < a) (h : DAt docs kc a) : DAt (docs.set b d) kc a := by
  obtain ⟨p, x, ds, e1, e2, hx, e3, e4⟩ := h
  refine ⟨p, x, ds, e1, by rw [List.getElem?_set_ne (by omega)]; exact e2, hx, e3, fun t j ej => ?_⟩
  have := hk a p e1 j (List.mem_of_getElem? ej)
  rw [List.getElem?_set_ne (by omega)]
  exact e4 t j ej
theorem SAt.keep {nl : List Str} {sv : List Int} {T docs : List D} {kc : KC} {sl : List Int} (hk : KOk kc) {a b : Nat} {v : Int} (hab : b < a) (h : SAt nl sv T docs kc sl a) : SAt nl sv T docs kc (sl.set b v) a := by
  intro p x ds e1 e2
  have := h p x ds e1 e2
  have gd : ∀ j, b < j → (sl.set b v).getD j 0 = sl.getD j 0 := fun j hj => by
    rw [List.getD_eq_getElem?_getD, List.getD_eq_getElem?_getD, List.getElem?_set_ne (by omega)]
  rw [gd a hab, this]
  congr 1
  refine List.map_congr_left fun j hj => (gd j ?_).symm
  have := hk a p e1 j hj
  omega
theorem Mach.mc {F N S T K : List D} {m : Int} (h : Mach F N S T K m) : ∃ nl sv, N = nl.map .str ∧ S = sv.map .int ∧ Mc nl sv T m := by
  obtain ⟨nl, rfl, _⟩ := h.ns
  obtain ⟨sv, rfl, hs⟩ := h.ss.ints
  exact ⟨nl, sv, rfl, rfl, hs, by simpa using h.sl, h.tl, h.ts⟩
end Mi
namespace Mi
open PySem L2
local macro_rules | `(tactic| walk_at "gl") => `(tactic| first
  | assumption
  | (refine Own.atL (h0 := ?_) (L := ?_) ?_ 0 ?_; rotate_left; rotate_left; assumption; rfl)
  | (refine Own.atL (h0 := ?_) (L := ?_) ?_ 1 ?_; rotate_left; rotate_left; assumption; rfl)
  | (refine Own.atL (h0 := ?_) (L := ?_) ?_ 2 ?_; rotate_left; rotate_left; assumption; rfl)
  | (refine Own.atL (h0 := ?_) (L := ?_) ?_ 3 ?_; rotate_left; rotate_left; assumption; rfl)
  | (refine Own.atL (h0 := ?_) (L := ?_) ?_ 4 ?_; rotate_left; rotate_left; assumption; rfl)
  | (refine Own.atL (h0 := ?_) (L := ?_) ?_ 5 ?_; rotate_left; rotate_left; assumption; rfl)
  | (refine Own.atL (h0 := ?_) (L := ?_) ?_ 6 ?_; rotate_left; rotate_left; assumption; rfl)
  | (refine Own.atL (h0 := ?_) (L := ?_) ?_ 7 ?_; rotate_left; rotate_left; assumption; rfl)
  | (refine Own.atL (h0 := ?_) (L := ?_) ?_ 8 ?_; rotate_left; rotate_left; assumption; rfl)
  | (refine Own.atL (h0 := ?_) (L := ?_) ?_ 9 ?_; rotate_left; rotate_left; assumption; rfl)
  | (refine Own.getL (h0 := ?_) (L := ?_) ?_ ?_; rotate_left; rotate_left; assumption; assumption))
local macro_rules | `(tactic| walk_at "il") => `(tactic| first
  | (refine Own.isL (h0 := ?_) (L := ?_) (l := ?_) ?_ 0 ?_; rotate_left; rotate_left; rotate_left; assumption; rfl)
  | (refine Own.isL (h0 := ?_) (L := ?_) (l := ?_) ?_ 1 ?_; rotate_left; rotate_left; rotate_left; assumption; rfl)
  | (refine Own.isL (h0 := ?_) (L := ?_) (l := ?_) ?_ 2 ?_; rotate_left; rotate_left; rotate_left; assumption; rfl)
  | (refine Own.isL (h0 := ?_) (L := ?_) (l := ?_) ?_ 3 ?_; rotate_left; rotate_left; rotate_left; assumption; rfl)
  | (refine Own.isL (h0 := ?_) (L := ?_) (l := ?_) ?_ 4 ?_; rotate_left; rotate_left; rotate_left; assumption; rfl)
  | (refine Own.isL (h0 := ?_) (L := ?_) (l := ?_) ?_ 5 ?_; rotate_left; rotate_left; rotate_left; assumption; rfl)
  | (refine Own.isL (h0 := ?_) (L := ?_) (l := ?_) ?_ 6 ?_; rotate_left; rotate_left; rotate_left; assumption; rfl)
  | (refine Own.isL (h0 := ?_) (L := ?_) (l := ?_) ?_ 7 ?_; rotate_left; rotate_left; rotate_left; assumption; rfl)
  | (refine Own.isL (h0 := ?_) (L := ?_) (l := ?_) ?_ 8 ?_; rotate_left; rotate_left; rotate_left; assumption; rfl)
  | (refine Own.isL (h0 := ?_) (L := ?_) (l := ?_) ?_ 9 ?_; rotate_left; rotate_left; rotate_left; assumption; rfl))
local macro_rules | `(tactic| walk_at "bd") => `(tactic| first | assumption | omega | (simp; done) | (simp; omega) | (simp [*]; done) | (simp [*]; omega))
local macro_rules | `(tactic| walk_at "w") => `(tactic| first
  | with_reducible refine w_seq ?_
  | with_reducible refine w_asg ?_
  | with_reducible refine w_cons ?_
  | with_reducible refine w_nil ?_
  | with_reducible refine w_c ?_
  | ((with_reducible refine w_var (d := ?_) ?_ ?_); rotate_left; rfl)
  | with_reducible refine w_bin ?_
  | with_reducible refine w_call ?_
  | with_reducible refine w_if ?_
  | with_reducible refine w_B ?_
  | with_reducible refine w_unB ?_
  | with_reducible refine w_ret ?_
  | with_reducible refine w_drop ?_
  | with_reducible refine w_skip ?_
  | with_reducible refine w_eq (dAdd_int _ _ _) ?_
  | with_reducible refine w_eq (dSub_int _ _ _) ?_
  | with_reducible refine w_eq (dEq_int _ _ _) ?_
  | with_reducible refine w_eq (dEq_str _ _ _) ?_
  | with_reducible refine w_eq (dNe_strs _ _ _) ?_
  | with_reducible refine w_eq (dEq_bls _ _ _) ?_
  | with_reducible refine w_eq (dNe_bls _ _ _) ?_
  | with_reducible refine w_eq (dLt_int _ _ _) ?_
  | with_reducible refine w_eq (dLe_int _ _ _) ?_
  | with_reducible refine w_eq (dGt_int _ _ _) ?_
  | with_reducible refine w_eq (dGe_int _ _ _) ?_
  | with_reducible refine w_eq (dNe_int _ _ _) ?_
  | ((with_reducible refine w_mod ?_ ?_); (first | assumption | decide | omega))
  | ((with_reducible refine w_fdiv ?_ ?_); (first | assumption | decide | omega))
  | ((with_reducible refine w_mulS ?_ ?_); (first | decide | omega))
  | ((with_reducible refine w_addS ?_ ?_); (first | assumption | decide | omega))
  | ((with_reducible refine w_lenS ?_ ?_); (first | assumption | decide | omega))
  | ((with_reducible refine w_slS ?_ ?_); (first | assumption | decide | omega))
  | with_reducible refine w_lenTm ?_
  | with_reducible refine w_eq (dLen_tup _ _) ?_
  | with_reducible refine w_eq (dSl_tup _ _ _ _) ?_
  | with_reducible refine w_eq (dMax_ev _ _ _) ?_
  | with_reducible refine w_eq (dMin_ev _ _ _) ?_
  | with_reducible refine w_eq (dAbs_ev _ _) ?_
  | with_reducible refine w_not ?_
  | with_reducible refine w_and ?_
  | with_reducible refine w_or ?_
  | with_reducible refine br_n ?_
  | with_reducible refine br_tt ?_
  | with_reducible refine br_ff ?_
  | ((with_reducible refine br_dt ?_ ?_); (first | assumption | omega | rfl))
  | ((with_reducible refine br_df ?_ ?_); (first | assumption | omega))
  | with_reducible refine w_tup ?_
  | ((with_reducible refine w_toTup ?_ ?_); exact (by simp))
  | with_reducible refine w_lst ?_
  | with_reducible refine w_lc ?_
  | with_reducible refine w_for ?_
  | with_reducible refine w_range1 ?_
  | with_reducible refine w_range2 ?_
  | ((with_reducible refine w_dR1 ?_ ?_); (first | decide | omega))
  | ((with_reducible refine w_dR2 ?_ ?_); (first | decide | omega))
  | with_reducible refine w_iter ?_
  | with_reducible refine w_eq (iter1_tup _ _) ?_
  | with_reducible refine w_eq (iter1_str _ _) ?_
  | with_reducible refine w_sl ?_
  | with_reducible refine w_no ?_
  | with_reducible refine w_some ?_
  | with_reducible refine w_unI ?_
  | with_reducible refine w_meth ?_
  | with_reducible refine w_isi ?_
  | with_reducible refine w_zip ?_
  | with_reducible refine w_ifE ?_
  | with_reducible refine w_andV ?_
  | with_reducible refine w_orV ?_
  | with_reducible refine w_notV ?_
  | with_reducible refine w_andK ?_
  | with_reducible refine w_orK ?_
  | with_reducible refine w_notK ?_
  | with_reducible refine w_revL ?_
  | with_reducible refine w_listRg1 ?_
  | with_reducible refine w_tindex ?_
  | with_reducible refine w_setIx ?_
  | with_reducible refine w_un ?_
  | with_reducible refine w_rev1 ?_
  | with_reducible refine w_rev2 ?_
  | with_reducible refine w_chain ?_
  | with_reducible refine w_chK ?_
  | with_reducible refine w_retN ?_
  | with_reducible refine w_brk ?_
  | with_reducible refine w_cont ?_
  | with_reducible refine w_asgT ?_
  | with_reducible refine w_eq (isi_str_str _ _) ?_
  | with_reducible refine w_eq (isi_int_int _ _) ?_
  | with_reducible refine w_eq (isi_tup_tup _ _) ?_
  | with_reducible refine w_eq (isi_bool_int _ _) ?_
  | with_reducible refine w_eq (isi_str_int _ _) ?_
  | ((with_reducible refine w_lenLm (α := ?_) (f := ?_) (l := ?_) ?_ ?_); rotate_left; rotate_left; rotate_left; walk_at "gl")
  | ((with_reducible refine w_lenL (l := ?_) ?_ ?_); rotate_left; walk_at "gl")
  | ((with_reducible refine w_iterL (l := ?_) ?_ ?_); rotate_left; walk_at "gl"; dsimp only)
  | ((with_reducible refine w_tupL (l := ?_) ?_ ?_); rotate_left; walk_at "gl")
  | ((with_reducible refine w_ixT (d := ?_) ?_ ?_); rotate_left; (first | with_reducible assumption | rfl))
  | ((with_reducible refine w_ixL (l := ?_) (d := ?_) ?_ ?_ ?_); rotate_left; rotate_left; walk_at "gl"; (first | with_reducible assumption | rfl))
  | ((with_reducible refine w_addT ?_ ?_); walk_at "bd")
  | ((with_reducible refine ⟨?_, ?_⟩); (with_reducible (show isListD (.ref _) _ = true)); walk_at "il")
  | with_reducible refine w_tryK ?_
  | with_reducible refine w_raise ?_
  | with_reducible refine w_raise0 ?_
  | with_reducible refine w_isX ?_
  | ((with_reducible refine w_isXK (k := ?_) ?_ ?_); rotate_left; (first | with_reducible exact lkA | (apply lkB; decide +kernel; exact lkA) | (apply lkB; decide +kernel; apply lkB; decide +kernel; exact lkA) | (apply lkB; decide +kernel; apply lkB; decide +kernel; apply lkB; decide +kernel; exact lkA)))
  | with_reducible refine w_xf ?_
  | ((with_reducible refine w_xfK ?_ ?_ ?_); (exact List.mem_cons_self); (decide))
  | with_reducible refine w_eq (isN_xo _) ?_
  | with_reducible refine w_eq (dNeg_int _ _) ?_)
local macro_rules | `(tactic| walk_at "go") => `(tactic| (repeat (walk_at "w")); try dsimp only [List.set])
local macro_rules | `(tactic| walk_at "fn") => `(tactic| ((refine w_fun ?_); simp only [startD, List.map_cons, List.map_nil, List.reduceReplicate, Nat.reduceSub, List.cons_append, List.nil_append]; walk_at "go"))
section
open PySem L2

local macro_rules | `(tactic| walk_at "w") => `(tactic| first
  | with_reducible refine w_eq (notN_non _) ?_
  | with_reducible refine w_eq (notN_int _ _) ?_
  | with_reducible refine w_eq (isN_non _) ?_
  | with_reducible refine w_eq (isN_int _ _) ?_)
def abcL47 : List Nat := (Str.ofString "abcdefghijklmnopqrstuvwxyz").cps.toList
theorem abcL47_len : abcL47.length = 26 := by unfold abcL47; decide +kernel
theorem abcL47_nd : abcL47.Nodup := by unfold abcL47; decide +kernel
theorem abcL47_ltr : ∀ c ∈ abcL47, Ltr c := by
  have : ∀ c ∈ abcL47, 97 ≤ c ∧ c ≤ 122 := by unfold abcL47; decide +kernel
  exact fun c hc => by have := this c hc; unfold Ltr; omega
def two47 (a b : Nat) : Str := (⟨#[a]⟩ : Str) ++ ⟨#[b]⟩
theorem two47_nm {a b : Nat} (ha : Ltr a) (hb : Ltr b) : Nm (two47 a b) := by
  refine ⟨by show 1 ≤ 2; omega, by show 2 ≤ 8; omega, ?_⟩
  have e : (two47 a b).cps.toList = [a, b] := rfl
  rw [e]
  intro c hc
  simp at hc
  rcases hc with rfl | rfl
  · exact ha
  · exact hb
theorem two47_inj {a b c : Nat} (h : two47 a b = two47 a c) : b = c := by
  have e : ∀ a b, (two47 a b).cps.toList = [a, b] := fun _ _ => rfl
  have := congrArg (fun x : Str => x.cps.toList) h
  simp only [e] at this
  simpa using this
theorem k_other47 {ns : List Str} (hl : ns.length ≤ 25) {h : MH} : Sat (m_other_name_452b4 [.tup (ns.map .str)] h) (fun d h' => h' = h ∧ ∃ x, d = .str x ∧ Nm x ∧ x ∉ ns) noX := by
  walk_at "fn"
  refine w_loop0 (fun k ρ h' => h' = h ∧ k = 0 ∧ ∃ o1 o2, ρ = [some (.tup (ns.map .str)), o1, o2]) ⟨rfl, rfl, none, none, rfl⟩ (fun _ _ _ _ => rfl) ?_ ?_
  rotate_left
  · rintro ρ h' ⟨_, hk, _⟩
    have : (List.map (fun c => D.str ⟨#[c]⟩) abcL47).length = 26 := by rw [List.length_map, abcL47_len]
    have e : (List.map (fun c => D.str ⟨#[c]⟩) abcL47).length = 0 := hk
    omega
  rintro k d ρ h' hd ⟨rfl, hk, o1, o2, rfl⟩
  replace hd : (abcL47.map fun c => D.str ⟨#[c]⟩)[k]? = some d := hd
  rw [List.getElem?_map, Option.map_eq_some_iff] at hd
  obtain ⟨c, ec, rfl⟩ := hd
  have hc := abcL47_ltr c (List.mem_of_getElem? ec)
  have l1 : ∀ a : Nat, (⟨#[a]⟩ : Str).length = 1 := fun _ => rfl
  have lc := l1 c
  refine ⟨_, rfl, ?_⟩
  dsimp only [List.set]
  walk_at "go"
  refine w_loop0 (fun j ρ h2 => h2 = h' ∧ (∃ o2, ρ = [some (.tup (ns.map .str)), some (.str ⟨#[c]⟩), o2]) ∧ ∀ e ∈ abcL47.take j, two47 c e ∈ ns) ⟨rfl, ⟨_, rfl⟩, by simp⟩ (fun _ _ _ _ => rfl) ?_ ?_
  · rintro j d ρ h2 hd ⟨rfl, ⟨o2, rfl⟩, hj⟩
    replace hd : (abcL47.map fun c => D.str ⟨#[c]⟩)[j]? = some d := hd
    rw [List.getElem?_map, Option.map_eq_some_iff] at hd
    obtain ⟨e, ee, rfl⟩ := hd
    have he := abcL47_ltr e (List.mem_of_getElem? ee)
    have le := l1 e
    refine ⟨_, rfl, ?_⟩
    dsimp only [List.set]
    walk_at "go"
    refine w_ninTs ?_
    by_cases z : two47 c e ∈ ns
    · rw [decide_eq_true (show ((⟨#[c]⟩ : Str) ++ ⟨#[e]⟩) ∈ ns from z)]
      walk_at "go"
      refine ⟨rfl, ⟨_, rfl⟩, fun x hx => ?_⟩
      rw [take_snoc ee] at hx
      rcases List.mem_append.mp hx with q | q
      · exact hj x q
      · rw [List.mem_singleton] at q; subst q; exact z
    · rw [decide_eq_false (show ¬ ((⟨#[c]⟩ : Str) ++ ⟨#[e]⟩) ∈ ns from z)]
      walk_at "go"
      exact ⟨rfl, two47 c e, rfl, two47_nm hc he, z⟩
  · rintro ρ h2 ⟨rfl, _, hj⟩
    exfalso
    have e : (List.map (fun c => D.str ⟨#[c]⟩) abcL47).length = 26 := by rw [List.length_map, abcL47_len]
    replace hj : ∀ e ∈ abcL47.take (List.map (fun c => D.str ⟨#[c]⟩) abcL47).length, two47 c e ∈ ns := hj
    rw [e, ← abcL47_len, List.take_length] at hj
    have nd : (abcL47.map (two47 c)).Nodup := by
      rw [List.nodup_iff_pairwise_ne, List.pairwise_map]
      exact List.Pairwise.imp (fun {a b} ne q => ne (two47_inj q)) (List.nodup_iff_pairwise_ne.mp abcL47_nd)
    have := nd.length_le_of_subset (l₂ := ns) fun x hx => by
      obtain ⟨y, hy, rfl⟩ := List.mem_map.mp hx
      exact hj y hy
    rw [List.length_map, abcL47_len] at this
    omega
/-! ### what a least document is made of -/
def SrcOk (ns : List Str) (st : List Int) (sp : List (List Int)) (t : Tb) (s : Nat) (src : D) : Prop := (∃ x, src = .tup [.str x] ∧ Nm x ∧ startI ns st x = (s : Int) ∧ t[s]? = some (some 1)) ∨ ∃ p q a b : Nat, src = .tup [.int (p : Int), .int (q : Int)] ∧ t[p]? = some (some a) ∧ t[q]? = some (some b) ∧ nx sp p q = s ∧ t[s]? = some (some (a + b)) ∧ 1 ≤ a ∧ 1 ≤ b
theorem fidx_nd47 {l : List Str} (hd : l.Nodup) {k : Nat} {f : Str} (e : l[k]? = some f) : fidx f l = some k := by
  obtain ⟨j, hj⟩ := fidx_mem (List.mem_of_getElem? e)
  have h2 := (fidx_some hj).1
  obtain ⟨a1, b1⟩ := List.getElem?_eq_some_iff.mp e
  obtain ⟨a2, b2⟩ := List.getElem?_eq_some_iff.mp h2
  have := (List.getElem_inj hd (h₀ := a1) (h₁ := a2)).mp (by rw [b1, b2])
  rw [hj, this]
section
variable {fs ns : List Str} {st : List Int} {sp : List (List Int)} {mk : List Int}
theorem k_source47 {h : MH} {t : Tb} (gr : Rows sp) (hn : sp.length ≤ 64) (hst : ∀ z ∈ st, 0 ≤ z ∧ z < (sp.length : Int)) (iv : SInv st sp t) (hc : closed sp t) (stl : st.length = ns.length + 1) (nd : ns.Nodup) (nn : ∀ x ∈ ns, Nm x) (hnl : ns.length ≤ 25) {s z : Nat} (es : t[s]? = some (some z)) :
    Sat (m_source_of_7e334 [gmD fs ns st sp mk, .tup (t.map oD), .int (s : Int)] h) (fun d h' => h' = h ∧ SrcOk ns st sp t s d) noX := by
  have hlen := iv.len
  have a0 := tb_at es
  rw [oD] at a0
  unfold gmD
  walk_at "fn"
  refine w_inTi ?_
  walk_at "go"
  by_cases hs : (s : Int) ∈ st
  · rw [decide_eq_true hs]
    walk_at "go"
    refine w_tindexI rfl rfl hs ?_
    have hi := List.idxOf_lt_length_iff.mpr hs
    have ei : st[st.idxOf (s : Int)]? = some (s : Int) := by rw [List.getElem?_eq_getElem hi, List.getElem_idxOf]
    have e1 := iv.sta s hs
    generalize st.idxOf (s : Int) = k at *
    have eg : st.getD k 0 = (s : Int) := by rw [List.getD_eq_getElem?_getD, ei]; rfl
    walk_at "go"
    refine br_d (fun c => ?_) (fun c => ?_)
    · have hk : k < ns.length := by omega
      have ex := List.getElem?_eq_getElem hk
      have ax : atI (ns.map D.str) (k : Int) = some (.str ns[k]) := atI_at (by rw [List.getElem?_map, ex]; rfl)
      walk_at "go"
      refine ⟨rfl, .inl ⟨ns[k], rfl, nn _ (List.getElem_mem hk), ?_, e1⟩⟩
      unfold startI
      rw [fidx_nd47 nd ex]
      exact eg
    · have hk : k = ns.length := by omega
      walk_at "go"
      refine (k_other47 hnl).mono ?_
      rintro d h' ⟨rfl, x, rfl, hx, hxn⟩
      walk_at "go"
      refine ⟨rfl, .inl ⟨x, rfl, hx, ?_, e1⟩⟩
      unfold startI
      have : fidx x ns = none := by
        cases ef : fidx x ns with
        | none => rfl
        | some j => exact absurd (List.mem_of_getElem? (fidx_some ef).1) hxn
      rw [this]
      show List.getLastD _ _ = _
      rw [List.getLastD_eq_getLast?, List.getLast?_eq_getElem?, stl, Nat.add_sub_cancel, ← hk, ei]; rfl
  · rw [decide_eq_false hs]
    walk_at "go"
    have hit : ∃ p q a b : Nat, t[p]? = some (some a) ∧ t[q]? = some (some b) ∧ nx sp p q = s ∧ a + b = z := by
      rcases iv.sup s z es with ⟨_, m⟩ | ⟨p, q, a, b, x1, x2, x3, x4⟩
      · exact absurd m hs
      · obtain ⟨c, y1, y2⟩ := hc p q a b x1 x2
        rw [x3, es] at y1
        simp at y1
        exact ⟨p, q, a, b, x1, x2, x3, by omega⟩
    refine w_loop0 (fun k ρ h' => h' = h ∧ (∃ o3 o5, ρ = [some (gmD fs ns st sp mk), some (.tup (t.map oD)), some (.int (s : Int)), o3, none, o5]) ∧ ∀ p q a b : Nat, p < k → t[p]? = some (some a) → t[q]? = some (some b) → nx sp p q = s → a + b = z → False) ⟨rfl, ⟨none, none, rfl⟩, fun p q a b hp => by omega⟩ (fun _ _ _ _ => rfl) ?_ ?_
    rotate_left
    · rintro ρ h' ⟨rfl, _, hx⟩
      rw [rangeD_length] at hx
      obtain ⟨p, q, a, b, y1, y2, y3, y4⟩ := hit
      have := (List.getElem?_eq_some_iff.mp y1).1
      exact (hx p q a b (by simp; omega) y1 y2 y3 y4).elim
    rintro p d ρ h' hd ⟨rfl, ⟨o3, o5, rfl⟩, hx⟩
    obtain ⟨hp, rfl⟩ := rangeD_get hd
    replace hp : p < t.length := by simpa using hp
    refine ⟨_, rfl, ?_⟩
    unfold gmD
    dsimp only [List.set]
    rw [Int.zero_add]
    walk_at "go"
    refine w_loop0 (fun k ρ h2 => h2 = h' ∧ (∃ o5, ρ = [some (gmD fs ns st sp mk), some (.tup (t.map oD)), some (.int (s : Int)), some (.int (p : Int)), none, o5]) ∧ ∀ p' q a b : Nat, p' < p ∨ (p' = p ∧ q < k) → t[p']? = some (some a) → t[q]? = some (some b) → nx sp p' q = s → a + b = z → False) ⟨rfl, ⟨o5, rfl⟩, fun p' q a b h1 => hx p' q a b (by omega)⟩ (fun _ _ _ _ => rfl) ?_ ?_
    rotate_left
    · rintro ρ h2 ⟨rfl, ⟨o5, rfl⟩, hx⟩
      rw [rangeD_length] at hx
      refine ⟨rfl, ⟨_, _, rfl⟩, fun p' q a b h1 e1 e2 => hx p' q a b ?_ e1 e2⟩
      have := (List.getElem?_eq_some_iff.mp e2).1
      simp
      omega
    clear hx
    rintro q d ρ h2 hd ⟨rfl, ⟨o5, rfl⟩, hx⟩
    obtain ⟨hq, rfl⟩ := rangeD_get hd
    replace hq : q < t.length := by simpa using hq
    refine ⟨_, rfl, ?_⟩
    unfold gmD
    dsimp only [List.set]
    rw [Int.zero_add]
    obtain ⟨row, r1, r2, r3⟩ := gr.at (p := p) (q := q) (by omega) (by omega)
    have e1 := getE (l := t) (i := p) hp
    have e2 := getE (l := t) (i := q) hq
    generalize t[p] = o1 at *
    generalize t[q] = o2 at *
    have a1 := tb_at e1
    have a2 := tb_at e2
    have keep : (∀ a b, o1 = some a → o2 = some b → nx sp p q = s → a + b = z → False) → ∀ p' q' a b : Nat, p' < p ∨ (p' = p ∧ q' < q + 1) → t[p']? = some (some a) → t[q']? = some (some b) → nx sp p' q' = s → a + b = z → False := fun hno p' q' a b h1 y1 y2 y3 y4 => by
      by_cases w : p' = p ∧ q' = q
      · obtain ⟨rfl, rfl⟩ := w
        rw [e1] at y1
        rw [e2] at y2
        exact hno a b (by simpa using y1) (by simpa using y2) y3 y4
      · exact hx p' q' a b (by omega) y1 y2 y3 y4
    walk_at "go"
    refine br_d (fun c => ?_) (fun c => ?_)
    rotate_left
    · walk_at "go"
      exact ⟨rfl, ⟨_, rfl⟩, keep fun a b _ _ y3 _ => c (by omega)⟩
    have c' : nx sp p q = s := by omega
    cases o1 with
    | none =>
      rw [oD] at a1
      walk_at "go"
      exact ⟨rfl, ⟨_, rfl⟩, keep fun a b y1 _ _ _ => by cases y1⟩
    | some a =>
      rw [oD] at a1
      cases o2 with
      | none =>
        rw [oD] at a2
        walk_at "go"
        exact ⟨rfl, ⟨_, rfl⟩, keep fun a b _ y1 _ _ => by cases y1⟩
      | some b =>
        rw [oD] at a2
        walk_at "go"
        refine br_d (fun c2 => ?_) (fun c2 => ?_)
        · walk_at "go"
          refine ⟨rfl, .inr ⟨p, q, a, b, rfl, e1, e2, c', ?_, (iv.pos _ _ e1).1, (iv.pos _ _ e2).1⟩⟩
          rw [es]
          congr 2
          omega
        · walk_at "go"
          refine ⟨rfl, ⟨_, rfl⟩, keep fun a' b' y1 y2 _ y4 => c2 ?_⟩
          cases y1
          cases y2
          omega
end
end
section
open PySem L2

local macro_rules | `(tactic| walk_at "w") => `(tactic| first
  | with_reducible refine w_eq (notN_non _) ?_
  | with_reducible refine w_eq (notN_int _ _) ?_
  | with_reducible refine w_eq (isN_non _) ?_
  | with_reducible refine w_eq (isN_int _ _) ?_)
/-! ### lists of numbers compared, dicts of numbers -/
theorem Scal.eqL47 {α : Type} {S : α → Prop} {f : α → D} {g : α → PyData} (c : Scal S f g) [DecidableEq α] {h : MH} {l m : List α} {i j : Nat} (ei : getL h i = some (l.map f)) (ej : getL h j = some (m.map f)) (hl : ∀ a ∈ l, S a) (hm : ∀ a ∈ m, S a) : eqD (.ref i) (.ref j) h = some (decide (l = m)) := by
  have py : ∀ (l : List α), (allSome ((l.map f).map (pyOf 59 h))) = some (l.map g) := fun l => by
    rw [List.map_map, ← allSome_map g l]
    congr 1
    exact List.map_congr_left fun a _ => c.py 58 h a
  have sh : ∀ (l : List α), (∀ a ∈ l, S a) → SeqAt.shaped (.list (l.map g)) = true := fun l hl => by
    obtain ⟨h1, h2⟩ := c.all hl
    simp only [SeqAt.shaped, PyData.canLay0, PyData.depth, h1, h2]
    rfl
  unfold eqD
  rw [if_neg (by simp [scalD])]
  simp only [pyOf, ei, ej, Option.bind_some, py, Option.map_some, sh l hl, sh m hm, true_and, if_true, PyData.eqv, c.eq]
theorem w_aset47 {N : SP} {T : D → MH → Prop} {B C : SP} {E : SX} {ρ : Slots} {h : MH} {o i e : ME} (q : Sat (e ρ h) (fun d h1 => Sat (o ρ h1) (fun x h2 => Sat (i ρ h2) (fun y h3 => Sat (dASet x y d h3) (fun _ h4 => N ρ h4) fun x fs h => E x fs ρ h) fun x fs h => E x fs ρ h) fun x fs h => E x fs ρ h) fun x fs h => E x fs ρ h) : OS (mASet o i e ρ h) N T B C E :=
  Sat.ot (q.monoE (fun _ _ z => Sat.ot (z.monoE (fun _ _ z => Sat.ot (z.monoE (fun _ _ z => Sat.ot (z.monoE (fun _ _ z => w_nx z) fun _ _ _ z => z)) fun _ _ _ z => z)) fun _ _ _ z => z)) fun _ _ _ z => z)
abbrev nK (s : Nat) : Key := .inl (s : Int)
abbrev kv47 (ks : List (Nat × D)) : List (Key × D) := ks.map fun p => (nK p.1, p.2)
theorem nK_inj {a b : Nat} (h : nK a = nK b) : a = b := by
  have := Sum.inl.inj h
  omega
theorem val_none47 {ks : List (Nat × D)} {s : Nat} (h : s ∉ ks.map (·.1)) : valD (kv47 ks) (nK s) = none := by
  unfold valD
  rw [Option.map_eq_none_iff, List.find?_eq_none]
  intro x hx
  obtain ⟨p, hp, rfl⟩ := List.mem_map.mp hx
  simp only [decide_eq_true_eq]
  exact fun e => h (List.mem_map.mpr ⟨p, hp, nK_inj e⟩)
theorem val_some47 : ∀ {ks : List (Nat × D)} {s : Nat} {d : D}, (ks.map (·.1)).Nodup → (s, d) ∈ ks → valD (kv47 ks) (nK s) = some d
  | (a, x) :: ks, s, d, nd, h => by
    unfold valD
    show Option.map _ (List.find? _ ((nK a, x) :: kv47 ks)) = _
    rw [List.find?_cons]
    by_cases e : a = s
    · subst e
      simp only [decide_true]
      rcases List.mem_cons.mp h with q | q
      · cases q; rfl
      · rw [List.map_cons, List.nodup_cons] at nd
        exact absurd (List.mem_map.mpr ⟨_, q, rfl⟩) nd.1
    · have e2 : decide (nK a = nK s) = false := decide_eq_false fun z => e (nK_inj z)
      simp only [e2]
      rcases List.mem_cons.mp h with q | q
      · cases q; exact absurd rfl e
      · rw [List.map_cons, List.nodup_cons] at nd
        exact val_some47 (ks := ks) nd.2 q
theorem put_new47 {ks : List (Nat × D)} {s : Nat} {d : D} (h : s ∉ ks.map (·.1)) : putKD (kv47 ks) (nK s) d = kv47 (ks ++ [(s, d)]) := by
  unfold putKD
  rw [if_neg]
  · show _ = (ks ++ [(s, d)]).map _
    rw [List.map_append]; rfl
  · rw [List.any_eq_true]
    rintro ⟨x, hx, e⟩
    obtain ⟨p, hp, rfl⟩ := List.mem_map.mp hx
    exact h (List.mem_map.mpr ⟨p, hp, nK_inj (of_decide_eq_true e)⟩)
theorem mem_val47 {ks : List (Nat × D)} {s : Nat} (h : s ∈ ks.map (·.1)) : ∃ d, (s, d) ∈ ks := by
  obtain ⟨p, hp, rfl⟩ := List.mem_map.mp h
  exact ⟨p.2, hp⟩
/-! ### the sources of a state and of all that it is made of -/
structure Srcs (ns : List Str) (st : List Int) (sp : List (List Int)) (t : Tb) (s0 z0 : Nat) (ks : List (Nat × D)) (ws : List Nat) : Prop where
  nd : (ks.map (·.1)).Nodup
  ok : ∀ p ∈ ks, SrcOk ns st sp t p.1 p.2
  cl : ∀ p ∈ ks, ∀ a b : Nat, p.2 = .tup [.int (a : Int), .int (b : Int)] → (a ∈ ks.map (·.1) ∨ a ∈ ws) ∧ (b ∈ ks.map (·.1) ∨ b ∈ ws)
  st0 : s0 ∈ ks.map (·.1) ∨ s0 ∈ ws
  lt : ∀ s, s ∈ ks.map (·.1) ∨ s ∈ ws → ∃ z, t[s]? = some (some z) ∧ (s = s0 ∨ z < z0)
section
variable {fs ns : List Str} {st : List Int} {sp : List (List Int)} {mk : List Int}
theorem Srcs.len {t : Tb} {s0 z0 : Nat} {ks : List (Nat × D)} {ws : List Nat} (S : Srcs ns st sp t s0 z0 ks ws) : ks.length ≤ t.length := by
  have := S.nd.length_le_of_subset (l₂ := List.range t.length) fun s hs => by
    obtain ⟨z, e, _⟩ := S.lt s (.inl hs)
    exact List.mem_range.mpr (List.getElem?_eq_some_iff.mp e).1
  simpa using this
theorem k_sources47 {h : MH} {t : Tb} (gr : Rows sp) (hn : sp.length ≤ 64) (hst : ∀ z ∈ st, 0 ≤ z ∧ z < (sp.length : Int)) (iv : SInv st sp t) (hc : closed sp t) (stl : st.length = ns.length + 1) (nd : ns.Nodup) (nn : ∀ x ∈ ns, Nm x) (hnl : ns.length ≤ 25) {s0 z0 : Nat} (es : t[s0]? = some (some z0)) :
    Sat (m_sources_of_a14e9 [gmD fs ns st sp mk, .tup (t.map oD), .int (s0 : Int)] h) (fun d h' => ∃ jf ks, d = .ref jf ∧ Cel h h' [(jf, .dK (kv47 ks))] ∧ Srcs ns st sp t s0 z0 ks []) noX := by
  have hlen := iv.len
  walk_at "fn"
  refine c_dict0 (Cel.nil h) fun jf h1 c1 => ?_
  walk_at "go"
  refine c_new c1 (by simp) fun jw h2 c2 => ?_
  walk_at "go"
  refine w_while (fun m ρ h' => ∃ (s : Int) (ks : List (Nat × D)) (ws : List Nat), ρ = [some (gmD fs ns st sp mk), some (.tup (t.map oD)), some (.int s), some (.ref jf), some (.ref jw)] ∧ Cel h h' [(jw, .lst (ws.map fun (s : Nat) => D.int (s : Int))), (jf, .dK (kv47 ks))] ∧ Srcs ns st sp t s0 z0 ks ws ∧ ws.length ≤ 1 + ks.length ∧ m = ws.length + 3 * (t.length - ks.length)) (1 + 3 * t.length) (by omega) ⟨(s0 : Int), [], [s0], rfl, c2, ⟨List.nodup_nil, fun p hp => by simp at hp, fun p hp => by simp at hp, .inr (by simp), fun s hs => by
    simp at hs
    subst hs
    exact ⟨z0, es, .inl rfl⟩⟩, by simp, by simp⟩ ?_
  rintro m ρ h3 ⟨s, ks, ws, rfl, c3, S, hwl, rfl⟩
  have hkl := S.len
  walk_at "go"
  refine c_new c3 (by simp) fun jn h4 c4 => ?_
  have ews : (ws.map fun (s : Nat) => D.int (s : Int)) = (ws.map fun (s : Nat) => (s : Int)).map D.int := by rw [List.map_map]; rfl
  have gw : getL h4 jw = some ((ws.map fun (s : Nat) => (s : Int)).map D.int) := by rw [← ews]; exact c4.atL 1 rfl
  have gn : getL h4 jn = some (([] : List Int).map D.int) := c4.atL 0 rfl
  refine w_neK (scal_int.eqL47 gw gn (fun _ _ => trivial) fun _ _ => trivial) ?_
  replace c4 := c4.tail
  have ed : decide ((ws.map fun (s : Nat) => (s : Int)) = []) = decide (ws = []) := by rw [Bool.eq_iff_iff]; simp
  rw [ed]
  rcases List.eq_nil_or_concat ws with rfl | ⟨w1, w, rfl⟩
  · rw [show decide (([] : List Nat) = []) = true from rfl]
    walk_at "go"
    exact ⟨jf, ks, rfl, c4.tail, S⟩
  have ne : decide (w1 ++ [w] = []) = false := decide_eq_false (by simp)
  rw [List.concat_eq_append] at *
  rw [ne]
  walk_at "go"
  have hw2 := S.lt w (.inr (by simp))
  obtain ⟨z, ez, hz⟩ := hw2
  have em : ((w1 ++ [w]).map fun (s : Nat) => D.int (s : Int)) = (w1.map fun (s : Nat) => D.int (s : Int)) ++ [.int (w : Int)] := by simp
  rw [em] at c4
  have isw : isListD (.ref jw) h4 = true := c4.isL 0 rfl
  refine ⟨isw, ?_⟩
  walk_at "go"
  refine w_pop (c4.at 0 rfl) ?_
  have c5 := c4.setAt 0 rfl (.lst (w1.map fun (s : Nat) => D.int (s : Int)))
  rw [List.set_cons_zero] at c5
  generalize h4.set jw (.lst (w1.map fun (s : Nat) => D.int (s : Int))) = h5 at *
  walk_at "go"
  have hsub : ∀ x, (x ∈ ks.map (·.1) ∨ x ∈ w1) → (x ∈ ks.map (·.1) ∨ x ∈ w1 ++ [w]) := fun x hx => hx.imp_right fun q => List.mem_append_left _ q
  have cK : h5[jf]? = some (.dK (kv47 ks)) := c5.at 1 rfl
  by_cases hin : w ∈ ks.map (·.1)
  · obtain ⟨d, hd⟩ := mem_val47 hin
    refine w_dNotIn (k := nK w) rfl cK ?_
    rw [val_some47 S.nd hd, Option.isSome_some]
    walk_at "go"
    have back : ∀ x, (x ∈ ks.map (·.1) ∨ x ∈ w1 ++ [w]) → (x ∈ ks.map (·.1) ∨ x ∈ w1) := fun x hx => by
      rcases hx with q | q
      · exact .inl q
      · rcases List.mem_append.mp q with q | q
        · exact .inr q
        · rw [List.mem_singleton] at q; subst q; exact .inl hin
    refine ⟨w1.length + 3 * (t.length - ks.length), by simp, (w : Int), ks, w1, rfl, c5, ⟨S.nd, S.ok, fun p hp a b e => ?_, back _ S.st0, fun x hx => S.lt x (hsub x hx)⟩, by simp at hwl; omega, rfl⟩
    have := S.cl p hp a b e
    exact ⟨back _ this.1, back _ this.2⟩
  · refine w_dNotIn (k := nK w) rfl cK ?_
    rw [val_none47 hin, Option.isSome_none]
    have hk2 : ks.length + 1 ≤ t.length := by
      have nd2 : (w :: ks.map (·.1)).Nodup := List.nodup_cons.mpr ⟨hin, S.nd⟩
      have := nd2.length_le_of_subset (l₂ := List.range t.length) fun x hx => by
        rcases List.mem_cons.mp hx with rfl | hx
        · exact List.mem_range.mpr (List.getElem?_eq_some_iff.mp ez).1
        · obtain ⟨_, e, _⟩ := S.lt x (.inl hx)
          exact List.mem_range.mpr (List.getElem?_eq_some_iff.mp e).1
      simpa using this
    walk_at "go"
    refine w_aset47 ?_
    walk_at "go"
    refine (k_source47 gr hn hst iv hc stl nd nn hnl ez).mono ?_
    rintro d h6 ⟨rfl, so⟩
    walk_at "go"
    refine c_dSet (k := nK w) rfl c5 1 rfl (by simp; omega) fun h7 c7 => ?_
    rw [put_new47 hin] at c7
    simp only [List.set_cons_succ, List.set_cons_zero] at c7
    have nd2 : ((ks ++ [(w, d)]).map (·.1)).Nodup := by
      rw [List.map_append, List.nodup_append]
      refine ⟨S.nd, by simp, fun a ha b hb q => ?_⟩
      simp at hb
      subst hb q
      exact hin ha
    have kin : ∀ x, x ∈ (ks ++ [(w, d)]).map (·.1) ↔ x ∈ ks.map (·.1) ∨ x = w := fun x => by rw [List.map_append, List.mem_append]; simp
    have cK7 : h7[jf]? = some (.dK (kv47 (ks ++ [(w, d)]))) := c7.at 1 rfl
    have hv : valD (kv47 (ks ++ [(w, d)])) (nK w) = some d := val_some47 nd2 (by simp)
    have ok2 : ∀ p ∈ ks ++ [(w, d)], SrcOk ns st sp t p.1 p.2 := fun p hp => by
      rcases List.mem_append.mp hp with q | q
      · exact S.ok p q
      · rw [List.mem_singleton] at q; subst q; exact so
    have mv : ∀ (W : List Nat) x, (∀ y, y ∈ w1 → y ∈ W) → (x ∈ ks.map (·.1) ∨ x ∈ w1 ++ [w]) → (x ∈ (ks ++ [(w, d)]).map (·.1) ∨ x ∈ W) := fun W x hW hx => by
      rcases hx with q | q
      · exact .inl ((kin x).mpr (.inl q))
      · rcases List.mem_append.mp q with q | q
        · exact .inr (hW x q)
        · rw [List.mem_singleton] at q; exact .inl ((kin x).mpr (.inr q))
    walk_at "go"
    refine w_dIx (k := nK w) rfl cK7 hv ?_
    rcases so with ⟨x, rfl, _, _, _⟩ | ⟨p, q, a, b, rfl, e1, e2, e3, e4, a1, b1⟩
    · walk_at "go"
      refine br_d (fun c => by simp at c) (fun _ => ?_)
      walk_at "go"
      refine ⟨w1.length + 3 * (t.length - (ks.length + 1)), by simp; omega, (w : Int), ks ++ [(w, .tup [.str x])], w1, rfl, c7, ⟨nd2, ok2, fun p hp a b e => ?_, mv w1 _ (fun _ z => z) S.st0, fun x hx => ?_⟩, by simp at hwl ⊢; omega, by simp⟩
      · rcases List.mem_append.mp hp with q | q
        · have := S.cl p q a b e
          exact ⟨mv w1 _ (fun _ z => z) this.1, mv w1 _ (fun _ z => z) this.2⟩
        · rw [List.mem_singleton] at q; subst q; cases e
      · rcases hx with q | q
        · rcases (kin x).mp q with q | q
          · exact S.lt x (.inl q)
          · subst q; exact ⟨z, ez, hz⟩
        · exact S.lt x (.inr (List.mem_append_left _ q))
    · walk_at "go"
      have isw7 : isListD (.ref jw) h7 = true := c7.isL 0 rfl
      refine ⟨isw7, ?_⟩
      walk_at "go"
      refine w_dIx (k := nK w) rfl cK7 hv ?_
      walk_at "go"
      refine w_extTu (c7.at 0 rfl) (by simp at hwl ⊢; omega) ?_
      have c8 := c7.setAt 0 rfl (.lst ((w1.map fun (s : Nat) => D.int (s : Int)) ++ [.int (p : Int), .int (q : Int)]))
      rw [List.set_cons_zero] at c8
      have em2 : (w1.map fun (s : Nat) => D.int (s : Int)) ++ [D.int (p : Int), D.int (q : Int)] = (w1 ++ [p, q]).map fun (s : Nat) => D.int (s : Int) := by simp
      rw [em2] at c8 ⊢
      rw [e4] at ez
      simp at ez
      have sub : ∀ y, y ∈ w1 → y ∈ w1 ++ [p, q] := fun y hy => List.mem_append_left _ hy
      walk_at "go"
      refine ⟨(w1 ++ [p, q]).length + 3 * (t.length - (ks.length + 1)), by simp; omega, (w : Int), ks ++ [(w, .tup [.int (p : Int), .int (q : Int)])], w1 ++ [p, q], rfl, c8, ⟨nd2, ok2, fun r hr a' b' e => ?_, mv _ _ sub S.st0, fun x hx => ?_⟩, by simp at hwl ⊢; omega, by simp⟩
      · rcases List.mem_append.mp hr with q' | q'
        · have := S.cl r q' a' b' e
          exact ⟨mv _ _ sub this.1, mv _ _ sub this.2⟩
        · rw [List.mem_singleton] at q'
          subst q'
          simp at e
          obtain ⟨h1', h2'⟩ := e
          have : a' = p := by omega
          have : b' = q := by omega
          subst_vars
          exact ⟨.inr (by simp), .inr (by simp)⟩
      · rcases hx with q' | q'
        · rcases (kin x).mp q' with q' | q'
          · exact S.lt x (.inl q')
          · subst q'
            exact ⟨a + b, e4, by rcases hz with z1 | z1; exact .inl z1; exact .inr (by omega)⟩
        · rcases List.mem_append.mp q' with q' | q'
          · exact S.lt x (.inr (List.mem_append_left _ q'))
          · have hlt : a + b ≤ z0 := by
              rcases hz with z1 | z1
              · subst z1
                rw [e4] at es
                simp at es
                omega
              · omega
            simp at q'
            rcases q' with rfl | rfl
            · exact ⟨a, e1, .inr (by omega)⟩
            · exact ⟨b, e2, .inr (by omega)⟩
end
end
section
open PySem L2

local macro_rules | `(tactic| walk_at "w") => `(tactic| first
  | with_reducible refine w_eq (notN_non _) ?_
  | with_reducible refine w_eq (notN_int _ _) ?_
  | with_reducible refine w_eq (isN_non _) ?_
  | with_reducible refine w_eq (isN_int _ _) ?_)
/-! ### makings -/
structure Mkg (ns : List Str) (st : List Int) (sp : List (List Int)) (t : Tb) (es : List D) (ss : List Nat) : Prop where
  len : es.length = ss.length
  nd : ss.Nodup
  ok : ∀ i s : Nat, ss[i]? = some s → (∃ x, es[i]? = some (.tup [.str x]) ∧ Nm x ∧ startI ns st x = (s : Int) ∧ t[s]? = some (some 1)) ∨ ∃ a b p q u v : Nat, es[i]? = some (.tup [.int (a : Int), .int (b : Int)]) ∧ a < i ∧ b < i ∧ ss[a]? = some p ∧ ss[b]? = some q ∧ nx sp p q = s ∧ t[p]? = some (some u) ∧ t[q]? = some (some v) ∧ t[s]? = some (some (u + v))
def szO (t : Tb) (s : Nat) : Nat := oN (t.getD s none)
theorem szO_of {t : Tb} {s z : Nat} (e : t[s]? = some (some z)) : szO t s = z := by unfold szO; rw [List.getD_eq_getElem?_getD, e]; rfl
def prI (t : Tb) (s : Nat) : Int × Int := ((szO t s : Int), (s : Int))
theorem leP_trans47 (a b c : Int × Int) (h1 : leP a b = true) (h2 : leP b c = true) : leP a c = true := by
  unfold leP at *
  simp only [decide_eq_true_eq] at *
  omega
theorem leP_tot47 (a b : Int × Int) : (leP a b || leP b a) = true := by
  unfold leP
  rw [Bool.or_eq_true]
  simp only [decide_eq_true_eq]
  omega
theorem sort_pr47 {t : Tb} (l : List Nat) : ∃ ss : List Nat, ss.Perm l ∧ sortP (l.map (prI t)) = ss.map (prI t) ∧ ss.Pairwise (fun a b => szO t a ≤ szO t b) := by
  have hp : (sortP (l.map (prI t))).Perm (l.map (prI t)) := List.mergeSort_perm _ _
  have hs : (sortP (l.map (prI t))).Pairwise (fun a b => leP a b = true) := List.pairwise_mergeSort leP_trans47 leP_tot47 _
  generalize sortP (l.map (prI t)) = o at *
  have hm : ∀ x ∈ o, x = prI t x.2.toNat := fun x hx => by
    obtain ⟨s, _, rfl⟩ := List.mem_map.mp (hp.mem_iff.mp hx)
    unfold prI
    simp
  have e : o = (o.map fun x => x.2.toNat).map (prI t) := by
    rw [List.map_map]
    conv => lhs; rw [← List.map_id o]
    exact List.map_congr_left fun x hx => hm x hx
  refine ⟨o.map fun x => x.2.toNat, ?_, e, ?_⟩
  · have := hp.map (fun x : Int × Int => x.2.toNat)
    rw [List.map_map] at this
    have e2 : (l.map ((fun x : Int × Int => x.2.toNat) ∘ prI t)) = l := by
      conv => rhs; rw [← List.map_id l]
      exact List.map_congr_left fun s _ => by simp [prI]
    rw [e2] at this
    exact this
  · rw [List.pairwise_map]
    refine List.Pairwise.imp_of_mem (fun {a b} ha hb h => ?_) hs
    rw [hm a ha, hm b hb] at h
    unfold leP prI at h
    simp only [decide_eq_true_eq] at h
    omega
/-- numbers of the states come -/
def nmb (ss : List Nat) : List (Nat × D) := ss.zipIdx.map fun p => (p.1, D.int (p.2 : Int))
theorem nmb_keys (ss : List Nat) : (nmb ss).map (·.1) = ss := by
  unfold nmb
  rw [List.map_map]
  have : ((fun x : Nat × D => x.1) ∘ fun p : Nat × Nat => (p.1, D.int (p.2 : Int))) = Prod.fst := rfl
  rw [this, List.zipIdx_map_fst]
theorem nmb_mem {ss : List Nat} {i s : Nat} (e : ss[i]? = some s) : (s, D.int (i : Int)) ∈ nmb ss := by
  unfold nmb
  refine List.mem_map.mpr ⟨(s, i), ?_, rfl⟩
  exact List.mem_zipIdx_iff_getElem?.mpr e
theorem nmb_snoc (ss : List Nat) (s : Nat) : nmb (ss ++ [s]) = nmb ss ++ [(s, D.int (ss.length : Int))] := by
  unfold nmb
  rw [List.zipIdx_append, List.map_append]
  simp
theorem nmb_at {ss : List Nat} (nd : ss.Nodup) {i s : Nat} (e : ss[i]? = some s) : valD (kv47 (nmb ss)) (nK s) = some (.int (i : Int)) := val_some47 (by rw [nmb_keys]; exact nd) (nmb_mem e)
/-- a comprehension over a dict's keys whose parts change nothing -/
theorem c_lockKeys47 {h0 h : MH} {L : CL} {k i : Nat} {l : List (Key × D)} {tg : MG} {te : ME} {vs : List Nat} {ρ : Slots} {Q : D → MH → Prop} {E : XE} (P : Nat → D → Prop) (n : Nat) (e : ρ[k]? = some (some (.ref i))) (c : Cel h0 h L) (hn : L[n]? = some (i, .dK l)) (hl : l.length ≤ 1000000)
    (hs : ∀ j d h', (l.map fun p : Key × D => kD p.1)[j]? = some d → (∃ t, h' = h.set i (.fK l) ++ t) → ∃ ρ1, tg d (wipeD ρ vs) = some ρ1 ∧ Sat (te ρ1 h') (fun y h2 => h2 = h' ∧ P j y) noX)
    (hq : ∀ (ys : List D) jF h', ys.length = l.length → (∀ j y, ys[j]? = some y → P j y) → Cel h0 h' ((jF, .lst ys) :: L) → Q (.ref jF) h') : Sat (mLock k (mLc (mKeysF (mVar k)) tg mYes te vs) ρ h) Q E := by
  have c0 := c.at n hn
  have hi : i < h.length := (List.getElem?_eq_some_iff.mp c0).1
  refine w_lock e c0 ?_
  refine w_lc ?_
  refine w_keysF (i := i) (l := l) (by simp [mVar, e]) (by rw [List.getElem?_set_self hi]) ?_
  refine w_compP (h0 := h.set i (.fK l)) P (by simpa using hl) (fun _ => rfl) (fun j d t hd => ?_) fun ys hy hp => ?_
  · exact hs j d _ hd ⟨t, rfl⟩
  · have hy' : ys.length = l.length := by simpa using hy
    have e1 : ((h.set i (.fK l)) ++ [MO.lst ys])[i]? = some (.fK l) := by rw [List.getElem?_append_left (by simpa using hi), List.getElem?_set_self hi]
    have e2 : ((h.set i (.fK l)) ++ [MO.lst ys]).set i (.dK l) = h ++ [MO.lst ys] := by
      rw [List.set_append_left _ _ (by simpa using hi), List.set_set]
      congr 1
      refine List.ext_getElem? fun j => ?_
      rw [List.getElem?_set]
      split
      · rename_i z
        subst z
        rw [c0]
      · rfl
    refine ⟨e1, ?_⟩
    rw [e2, List.length_set]
    exact hq ys _ _ hy' hp (c.alloc _)
section
variable {fs ns : List Str} {st : List Int} {sp : List (List Int)} {mk : List Int}
theorem Mkg.snoc {t : Tb} {es : List D} {ss : List Nat} (M : Mkg ns st sp t es ss) {e : D} {s : Nat} (hs : s ∉ ss) (h : (∃ x, e = .tup [.str x] ∧ Nm x ∧ startI ns st x = (s : Int) ∧ t[s]? = some (some 1)) ∨ ∃ a b p q u v : Nat, e = .tup [.int (a : Int), .int (b : Int)] ∧ ss[a]? = some p ∧ ss[b]? = some q ∧ nx sp p q = s ∧ t[p]? = some (some u) ∧ t[q]? = some (some v) ∧ t[s]? = some (some (u + v))) : Mkg ns st sp t (es ++ [e]) (ss ++ [s]) := by
  have hl := M.len
  refine ⟨by simp [hl], ?_, fun i r hi => ?_⟩
  · rw [List.nodup_append]
    refine ⟨M.nd, by simp, fun a ha b hb q => ?_⟩
    simp at hb
    subst hb q
    exact hs ha
  · rcases Nat.lt_trichotomy i ss.length with c | c | c
    · rw [List.getElem?_append_left c] at hi
      rw [List.getElem?_append_left (by omega)]
      rcases M.ok i r hi with z | ⟨a, b, p, q, u, v, e1, l1, l2, e2, e3, z⟩
      · exact .inl z
      · exact .inr ⟨a, b, p, q, u, v, e1, l1, l2, by rw [List.getElem?_append_left (by omega)]; exact e2, by rw [List.getElem?_append_left (by omega)]; exact e3, z⟩
    · subst c
      rw [List.getElem?_append_right (Nat.le_refl _), Nat.sub_self] at hi
      simp at hi
      subst hi
      have e0 : (es ++ [e])[ss.length]? = some e := by rw [← hl, List.getElem?_append_right (Nat.le_refl _), Nat.sub_self]; rfl
      rw [e0]
      rcases h with ⟨x, rfl, z⟩ | ⟨a, b, p, q, u, v, rfl, e2, e3, z⟩
      · exact .inl ⟨x, rfl, z⟩
      · have la := (List.getElem?_eq_some_iff.mp e2).1
        have lb := (List.getElem?_eq_some_iff.mp e3).1
        exact .inr ⟨a, b, p, q, u, v, rfl, la, lb, by rw [List.getElem?_append_left la]; exact e2, by rw [List.getElem?_append_left lb]; exact e3, z⟩
    · rw [List.getElem?_eq_none (by simp; omega)] at hi
      cases hi
theorem k_makings47 {h : MH} (gr : Rows sp) (hn : sp.length ≤ 64) (hst : ∀ z ∈ st, 0 ≤ z ∧ z < (sp.length : Int)) (hmk : mk.length = sp.length) (stl : st.length = ns.length + 1) (nd : ns.Nodup) (nn : ∀ x ∈ ns, Nm x) (hnl : ns.length ≤ 25) {s0 : Nat} (hs0 : s0 < sp.length) :
    Sat (m_makings_of_8c00c [gmD fs ns st sp mk, .int (s0 : Int)] h) (fun d h' => h <+: h' ∧ ∃ t : Tb, SInv st sp t ∧ closed sp t ∧ ((t[s0]? = some none ∧ d = .non) ∨ ∃ z es ss, t[s0]? = some (some z) ∧ d = .tup es ∧ Mkg ns st sp t es (ss ++ [s0]))) noX := by
  walk_at "fn"
  refine (cc_sizes45 gr hn hst hmk).mono ?_
  rintro d h1 ⟨p1, t, rfl, iv, hc⟩
  have hlen := iv.len
  have e0 := getE (l := t) (i := s0) (by omega)
  generalize t[s0] = o0 at e0
  have a0 := tb_at e0
  cases o0 with
  | none =>
    rw [oD] at a0
    walk_at "go"
    exact ⟨p1, t, iv, hc, .inl ⟨e0, rfl⟩⟩
  | some z0 =>
    rw [oD] at a0
    walk_at "go"
    refine (k_sources47 gr hn hst iv hc stl nd nn hnl e0).mono ?_
    rintro d h2 ⟨jf, ks, rfl, c2, S⟩
    have hkl := S.len
    walk_at "go"
    refine c_dict0 c2 fun jm h3 c3 => ?_
    walk_at "go"
    refine c_new c3 (by simp) fun je h4 c4 => ?_
    walk_at "go"
    refine c_lockKeys47 (fun j y => ∃ p : Nat × D, ks[j]? = some p ∧ y = pairD (prI t p.1)) 2 rfl c4 rfl (by simp; omega) ?_ ?_
    · rintro j d h' hd ⟨tl, rfl⟩
      rw [List.getElem?_map, List.getElem?_map, Option.map_map, Option.map_eq_some_iff] at hd
      obtain ⟨p, ep, rfl⟩ := hd
      obtain ⟨z, ez, _⟩ := S.lt p.1 (.inl (List.mem_map.mpr ⟨p, List.mem_of_getElem? ep, rfl⟩))
      have ap := tb_at ez
      have ep1 : kD ((fun p : Nat × D => (nK p.1, p.2)) p).1 = .int (p.1 : Int) := rfl
      refine ⟨_, rfl, ?_⟩
      dsimp only [wipeD, List.set, Function.comp]
      rw [ep1]
      rw [oD] at ap
      walk_at "go"
      refine ⟨rfl, p, ep, ?_⟩
      unfold prI pairD
      rw [szO_of ez]
    intro ys jF h5 hy hys c5
    have ey : ys = ((ks.map (·.1)).map (prI t)).map pairD := by
      refine List.ext_getElem (by simp [hy]) fun j a1 a2 => ?_
      obtain ⟨p, ep, e⟩ := hys j _ (List.getElem?_eq_getElem a1)
      rw [e]
      obtain ⟨b1, b2⟩ := List.getElem?_eq_some_iff.mp ep
      simp only [List.getElem_map, b2]
    subst ey
    obtain ⟨ss, pm, eso, so⟩ := sort_pr47 (t := t) (ks.map (·.1))
    walk_at "go"
    refine w_sortP (c5.atL 0 rfl) ?_
    rw [eso]
    have c6 := c5.alloc (.lst ((ss.map (prI t)).map pairD))
    generalize h5 ++ [MO.lst ((ss.map (prI t)).map pairD)] = h6 at *
    generalize h5.length = j6 at *
    have snd := pm.nodup_iff.mpr S.nd
    have smem : ∀ s, s ∈ ss ↔ s ∈ ks.map (·.1) := fun s => pm.mem_iff
    have sl : ss.length = ks.length := by rw [pm.length_eq, List.length_map]
    have g6 := c6.atL 0 rfl
    walk_at "go"
    refine w_loop0 (fun k ρ h' => ∃ (o6 o7 o8 o9 : Option D) (es : List D), ρ = [some (gmD fs ns st sp mk), some (.int (s0 : Int)), some (.tup (t.map oD)), some (.ref jf), some (.ref jm), some (.ref je), o6, o7, o8, o9] ∧ Cel h1 h' [(j6, .lst ((ss.map (prI t)).map pairD)), (jF, .lst (((ks.map (·.1)).map (prI t)).map pairD)), (je, .lst es), (jm, .dK (kv47 (nmb (ss.take k)))), (jf, .dK (kv47 ks))] ∧ Mkg ns st sp t es (ss.take k)) ⟨none, none, none, none, [], rfl, c6, by rw [List.take_zero]; exact ⟨rfl, List.nodup_nil, fun i s e => by simp at e⟩⟩ (fun k ρ h' ⟨o6, o7, o8, o9, es, e, c7, M⟩ => decide_eq_true (c7.atL 0 rfl)) ?_ ?_
    rotate_left
    · rintro ρ h7 ⟨o6, o7, o8, o9, es, rfl, c7, M⟩
      rw [List.length_map, List.length_map, List.take_length] at M
      walk_at "go"
      refine w_tupL (c7.atL 2 rfl) ?_
      have hin : s0 ∈ ss := (smem s0).mpr (by rcases S.st0 with z | z; exact z; simp at z)
      obtain ⟨sa, sb, rfl⟩ := List.append_of_mem hin
      refine ⟨p1.trans c7.pre, t, iv, hc, .inr ⟨z0, es, sa, e0, rfl, ?_⟩⟩
      have : sb = [] := by
        cases sb with
        | nil => rfl
        | cons r sb =>
          exfalso
          have hr : r ∈ sa ++ s0 :: r :: sb := by simp
          obtain ⟨z, ez, hz⟩ := S.lt r (.inl ((smem r).mp hr))
          rw [List.pairwise_append] at so
          have h1 := (List.pairwise_cons.mp so.2.1).1 r List.mem_cons_self
          rw [szO_of e0, szO_of ez] at h1
          rcases hz with rfl | hz
          · rw [List.nodup_append] at snd
            have := (List.nodup_cons.mp snd.2.1).1
            simp at this
          · omega
      rw [this] at M
      exact M
    rintro k d ρ h7 hd ⟨o6, o7, o8, o9, es, rfl, c7, M⟩
    rw [List.getElem?_map, List.getElem?_map, Option.map_map, Option.map_eq_some_iff] at hd
    obtain ⟨s, hs, rfl⟩ := hd
    have hk := (List.getElem?_eq_some_iff.mp hs).1
    obtain ⟨z, ez, hz⟩ := S.lt s (.inl ((smem s).mp (List.mem_of_getElem? hs)))
    obtain ⟨dd, hdd⟩ := mem_val47 ((smem s).mp (List.mem_of_getElem? hs))
    have so1 := S.ok _ hdd
    have hML := M.len
    have tk := take_snoc hs
    have hnot : s ∉ ss.take k := fun q => by
      obtain ⟨j, hj, e⟩ := List.mem_iff_getElem.mp q
      rw [List.getElem_take] at e
      rw [List.length_take] at hj
      obtain ⟨b1, b2⟩ := List.getElem?_eq_some_iff.mp hs
      have := (List.getElem_inj snd (h₀ := by omega) (h₁ := b1)).mp (e.trans b2.symm)
      omega
    have ltk : (ss.take k).length = k := by rw [List.length_take]; omega
    have vs : valD (kv47 ks) (nK s) = some dd := val_some47 S.nd hdd
    rw [tk]
    refine ⟨_, rfl, ?_⟩
    show OS _ _ _ _ _ _
    dsimp only [Function.comp, prI, pairD, List.set]
    have g5 := c7.atL 2 rfl
    walk_at "go"
    refine w_aset47 ?_
    walk_at "go"
    refine c_dSet (k := nK s) rfl c7 3 rfl (by simp [nmb]; omega) fun h8 c8 => ?_
    have hnk : s ∉ (nmb (ss.take k)).map (·.1) := by rw [nmb_keys]; exact hnot
    rw [put_new47 hnk] at c8
    have hes : es.length = k := by rw [hML, ltk]
    have enm : nmb (ss.take k) ++ [(s, D.int (es.length : Int))] = nmb (ss.take k ++ [s]) := by rw [nmb_snoc, ltk, hes]
    rw [enm] at c8
    simp only [List.set_cons_succ, List.set_cons_zero] at c8
    have cK8 := c8.at 4 rfl
    have cM8 := c8.at 3 rfl
    have ndk : (ss.take k ++ [s]).Nodup := by rw [← tk]; exact (List.take_sublist _ _).nodup snd
    walk_at "go"
    refine w_dIx (k := nK s) rfl cK8 vs ?_
    have isw8 : isListD (.ref je) h8 = true := c8.isL 2 rfl
    rcases so1 with ⟨x, rfl, hx, ex, e1⟩ | ⟨p, q, a, b, rfl, e1, e2, e3, e4, a1, b1⟩
    · walk_at "go"
      refine ⟨isw8, ?_⟩
      walk_at "go"
      refine w_dIx (k := nK s) rfl cK8 vs ?_
      walk_at "go"
      refine c_app c8 2 rfl (by omega) fun h9 c9 => ?_
      exact ⟨_, _, _, _, _, rfl, c9, M.snoc hnot (.inl ⟨x, rfl, hx, ex, e1⟩)⟩
    · walk_at "go"
      refine br_d (fun c => by simp at c) (fun _ => ?_)
      walk_at "go"
      refine w_dIx (k := nK s) rfl cK8 vs ?_
      have hcl := S.cl _ hdd p q rfl
      have look : ∀ r w : Nat, t[r]? = some (some w) → w < a + b → (r ∈ ks.map (·.1) ∨ r ∈ ([] : List Nat)) → ∃ j : Nat, (ss.take k)[j]? = some r ∧ valD (kv47 (nmb (ss.take k ++ [s]))) (nK r) = some (.int (j : Int)) := fun r w hr hw hin => by
        have hin' : r ∈ ss := (smem r).mpr (by rcases hin with z | z; exact z; simp at z)
        obtain ⟨j, hj, ej⟩ := List.mem_iff_getElem.mp hin'
        have hjk : j < k := by
          rcases Nat.lt_trichotomy j k with c | c | c
          · exact c
          · subst c
            obtain ⟨b1', b2'⟩ := List.getElem?_eq_some_iff.mp hs
            rw [ej] at b2'
            subst b2'
            rw [hr] at e4
            simp at e4
            omega
          · exfalso
            have := (List.pairwise_iff_getElem.mp so) k j hk hj c
            obtain ⟨b1', b2'⟩ := List.getElem?_eq_some_iff.mp hs
            rw [ej, b2', szO_of hr, szO_of e4] at this
            omega
        have e5 : (ss.take k)[j]? = some r := by rw [List.getElem?_take, if_pos hjk, List.getElem?_eq_getElem hj, ej]
        exact ⟨j, e5, nmb_at ndk (by rw [List.getElem?_append_left (by rw [ltk]; exact hjk)]; exact e5)⟩
      obtain ⟨ja, ea, va⟩ := look p a e1 (by omega) hcl.1
      obtain ⟨jb, eb, vb⟩ := look q b e2 (by omega) hcl.2
      walk_at "go"
      refine ⟨_, rfl, ?_⟩
      dsimp only [List.set]
      walk_at "go"
      refine ⟨isw8, ?_⟩
      walk_at "go"
      refine w_dIx (k := nK p) rfl cM8 va ?_
      walk_at "go"
      refine w_dIx (k := nK q) rfl cM8 vb ?_
      walk_at "go"
      refine c_app c8 2 rfl (by omega) fun h9 c9 => ?_
      exact ⟨_, _, _, _, _, rfl, c9, M.snoc hnot (.inr ⟨ja, jb, p, q, a, b, rfl, ea, eb, e3, e1, e2, e4⟩)⟩
end
end
section
open PySem L2

local macro_rules | `(tactic| walk_at "w") => `(tactic| first
  | with_reducible refine w_eq (notN_non _) ?_
  | with_reducible refine w_eq (notN_int _ _) ?_
  | with_reducible refine w_eq (isN_non _) ?_
  | with_reducible refine w_eq (isN_int _ _) ?_)
/-! ### the law's own walk over makings -/
section
variable {fs ns : List Str} {st : List Int} {sp : List (List Int)} {mk : List Int}
/-- the machine as far as it matters here -/
structure G47 (ns : List Str) (st : List Int) (sp : List (List Int)) (mk : List Int) : Prop where
  gr : Rows sp
  hn : sp.length ≤ 64
  hst : ∀ z ∈ st, 0 ≤ z ∧ z < (sp.length : Int)
  hmk : mk.length = sp.length
  stl : st.length = ns.length + 1
  nd : ns.Nodup
  nn : ∀ x ∈ ns, Nm x
  hnl : ns.length ≤ 25
theorem sizes_det47 {t t' : Tb} (a : SInv st sp t) (b : SInv st sp t') (ca : closed sp t) (cb : closed sp t') : t = t' := by
  have key : ∀ {t t' : Tb}, SInv st sp t → SInv st sp t' → closed sp t' → ∀ z s : Nat, t[s]? = some (some z) → ∃ z' : Nat, t'[s]? = some (some z') ∧ z' ≤ z := by
    intro t t' a b cb z
    induction z using Nat.strongRecOn with
    | ind z ih =>
      intro s e
      rcases a.sup s z e with ⟨h1, m⟩ | ⟨p, q, x, y, e1, e2, e3, e4⟩
      · exact ⟨1, b.sta s m, (a.pos _ _ e).1⟩
      · have p1 := (a.pos _ _ e1).1
        have p2 := (a.pos _ _ e2).1
        obtain ⟨x', f1, g1⟩ := ih x (by omega) p e1
        obtain ⟨y', f2, g2⟩ := ih y (by omega) q e2
        obtain ⟨c, f3, g3⟩ := cb p q x' y' f1 f2
        rw [e3] at f3
        exact ⟨c, f3, by omega⟩
  refine List.ext_getElem? fun s => ?_
  cases e : t[s]? with
  | none =>
    have := List.getElem?_eq_none_iff.mp e
    rw [List.getElem?_eq_none (by have := a.len; have := b.len; omega)]
  | some o =>
    have hs := (List.getElem?_eq_some_iff.mp e).1
    have hs' : s < t'.length := by have := a.len; have := b.len; omega
    cases e' : t'[s]? with
    | none => rw [List.getElem?_eq_none_iff] at e'; omega
    | some o' =>
      cases o with
      | none =>
        cases o' with
        | none => rfl
        | some z' =>
          obtain ⟨z, f, _⟩ := key b a ca z' s e'
          rw [e] at f
          cases f
      | some z =>
        obtain ⟨z', f, g⟩ := key a b cb z s e
        rw [e'] at f
        simp at f
        subst f
        obtain ⟨z2, f2, g2⟩ := key b a ca z' s e'
        rw [e] at f2
        simp at f2
        subst f2
        have : z = z' := by omega
        rw [this]
end
end
section
open PySem L2
section
variable {fs ns : List Str} {st : List Int} {sp : List (List Int)} {mk : List Int}
end
end
section
open PySem L2
end
end Mi


/-! dict.get and dict.setdefault (keys whole numbers, texts, tuples); min of whole numbers and of pairs of them. -/
namespace Mi
open PySem L2 PySem.Spec PyProof.Rows
def IsDN (w : World) (H : Hp) (a : Addr) : Prop := (∃ kvs, H a = some (.dK kvs)) ∨ ∃ xs, H a = some (DN w a xs)
def rGetA (K : PySem.W.Frag) (w : World) (x y z : V) (H : Hp) (Q : VK) : Prop :=
  (∃ a k kvs, x = .ref a ∧ y = kV k ∧ H a = some (.dK kvs) ∧ Q ((valV kvs k).getD z) H) ∨
  ∃ c p k xs, x = .ref p ∧ y = .ref c ∧ NkV K H k (.ref c) ∧ k.depth ≤ 8 ∧ NDct w H p xs ∧ NKeys K H xs ∧ (∀ c' u, atKey xs k = some (c', u) → ∃ v, RelV v u ∧ Q v H) ∧ (atKey xs k = none → Q z H)
def rSetA (K : PySem.W.Frag) (w : World) (x y z : V) (H : Hp) (Q : VK) : Prop :=
  (∃ a k kvs, x = .ref a ∧ y = kV k ∧ H a = some (.dK kvs) ∧ kvs.length < sizeLine ∧ (∀ v, valV kvs k = some v → Q v H) ∧ (valV kvs k = none → Q z (upd H a (.dK (putK kvs k z))))) ∨
  ∃ c p k xs, x = .ref p ∧ y = .ref c ∧ NkV K H k (.ref c) ∧ k.depth ≤ 8 ∧ NDct w H p xs ∧ NKeys K H xs ∧ xs.length < sizeLine ∧ (∀ c' u, atKey xs k = some (c', u) → ∃ v, RelV v u ∧ Q v H) ∧ (atKey xs k = none → ∀ u, RelV z u → Q z (upd H p (DN w p (storedH xs k c u))))
def tDM2 (w : World) (r : V → V → V → Hp → VK → Prop) (td ty tx : TE) : TE := fun σ H Q => td σ H fun x H1 => ∃ a, x = .ref a ∧ IsDN w H1 a ∧ ty σ H1 fun y H2 => tx σ H2 fun z H3 => r x y z H3 Q
section
variable {X : Cx} {pins : List (Addr × Obj)} {σ : L2.St} {H : Hp} {s : Shared} {a : Addr}
end
section
variable {X : Cx} {o e f : Expr} {td ty tx : TE} {apos cpos : Pos}
end
/-! ### the mirror -/
def isDctD (x : D) (h : MH) : Bool := match x with
  | .ref i => match h[i]? with
    | some (.dK _) => true
    | some (.dN _) => true
    | _ => false
  | _ => false
def dGetA (x y z : D) (h : MH) : R D := match keyD y with
  | some k => match getK h x with
    | some l => .ok ((valD l k).getD z) h
    | none => .bad
  | none => match nkT y, getN h x with
    | some k, some l => .ok ((valN l k).getD z) h
    | _, _ => .bad
def dSetA (x y z : D) (h : MH) : R D := match x with
  | .ref i => match keyD y with
    | some k => match getK h (.ref i) with
      | some l => if l.length < 1000000 then match valD l k with
        | some v => .ok v h
        | none => .ok z (h.set i (.dK (putKD l k z))) else .bad
      | none => .bad
    | none => match nkT y, getN h (.ref i) with
      | some k, some l => if l.length < 1000000 then match valN l k with
        | some v => .ok v h
        | none => .ok z (h.set i (.dN (putN l k z))) else .bad
      | _, _ => .bad
  | _ => .bad
def mDM (F : D → D → D → MH → R D) (o e f : ME) : ME := fun ρ h => (o ρ h).bind fun x h1 => if isDctD x h1 = true then (e ρ h1).bind fun y h2 => (f ρ h2).bind fun z h3 => F x y z h3 else .bad
section
variable {g : G} {H : Hp} {μ : List Addr} {h : MH}
end
def S3 (g : G) (r : V → V → V → Hp → VK → Prop) (F : D → D → D → MH → R D) : Prop := ∀ (H : Hp) (μ : List Addr) (h : MH) (x y z : V) (a b c : D) (Q : VK) (W : XK), HR g H μ h → VR g H μ x a → VR g H μ y b → VR g H μ z c → Bk (VR g) g H μ (F a b c h) Q W → r x y z H Q
section
variable {g : G}
end
section
variable {X : Cx} {W : WX} {o e f : Expr} {mo me mf : ME} {apos cpos : Pos} {r : V → V → V → Hp → VK → Prop} {F : D → D → D → MH → R D}
end
/-! ### min -/
def ltP (p q : Int × Int) : Bool := decide (p.1 < q.1 ∨ (p.1 = q.1 ∧ p.2 < q.2))
def minP : List (Int × Int) → Int × Int
  | [] => (0, 0)
  | b :: bs => bs.foldl (fun a y => if ltP y a then y else a) b
def minI : List Int → Int
  | [] => 0
  | b :: bs => bs.foldl min b
theorem minI_low : ∀ {l : List Int} {m : Int}, m ∈ l → (∀ z ∈ l, m ≤ z) → minI l = m
  | b :: bs, m, h1, h2 => by
    have : ∀ (bs : List Int) (b : Int), (b = m ∨ m ∈ bs) → m ≤ b → (∀ z ∈ bs, m ≤ z) → bs.foldl min b = m := by
      intro bs
      induction bs with
      | nil => intro b h _ _; simpa using h
      | cons c bs ih =>
        intro b h hb hc
        rw [List.foldl_cons]
        have c1 := hc c List.mem_cons_self
        refine ih _ ?_ (by omega) fun z hz => hc z (List.mem_cons_of_mem _ hz)
        rcases h with h | h
        · left; omega
        · rcases List.mem_cons.mp h with h | h
          · left; omega
          · exact .inr h
    exact this bs b (by rcases List.mem_cons.mp h1 with h | h; exact .inl h.symm; exact .inr h) (h2 b List.mem_cons_self) fun z hz => h2 z (List.mem_cons_of_mem _ hz)
def rMinP (K : PySem.W.Frag) : List V → Hp → VK → Prop := fun xs H Q => ∃ p ys bs, xs = [V.ref p] ∧ SqL K H p ys ∧ PairsV K H ys bs ∧ 0 < bs.length ∧ ∀ z, PairV K H z (minP bs) → Q z H
def rMinA (K : PySem.W.Frag) : List V → Hp → VK → Prop := fun xs H Q => rMin K xs H Q ∨ rMinP K xs H Q
theorem minD_pairs (b : Int × Int) (bs : List (Int × Int)) : PySem.W.minD (encP b) (bs.map encP) = encP (minP (b :: bs)) := by
  unfold PySem.W.minD minP
  rw [List.foldl_map]
  induction bs generalizing b with
  | nil => rfl
  | cons c bs ih =>
    show List.foldl _ _ _ = encP (bs.foldl (fun a y => if ltP y a then y else a) (if ltP c b then c else b))
    rw [List.foldl_cons]
    have : PySem.W.dataLt (encP c) (encP b) = ltP c b := by
      unfold encP ltP
      rw [PySem.W.dataLt_ii]
    rw [this]
    cases ltP c b <;> exact ih _
section
variable {X : Cx} {pins : List (Addr × Obj)} {σ : L2.St} {H : Hp} {s : Shared}
theorem readsAll35 (I : L2.Inv X pins σ H s) : ∀ {ys : List V} {its : List Value} {bs : List (Int × Int)}, Vals ys its → PairsV X.K H ys bs → ∃ as, ReadsAll s.heap its (bs.map encP) as
  | _, _, _, .nil, .nil => ⟨[], .nil⟩
  | _, _, _, .cons a r, .cons c t => by
    obtain ⟨as, h⟩ := readsAll35 I r t
    exact ⟨_, .cons (reads_pair I a c) h⟩
theorem eachAt35 {K : PySem.W.Frag} : ∀ {ys : List V} {its : List Value} {bs : List (Int × Int)} {i : Nat} {v : Value}, Vals ys its → PairsV K H ys bs → its[i]? = some v → ∃ x b, RelV x v ∧ PairV K H x b ∧ b ∈ bs
  | _, _, _, i, v, .nil, .nil, e => by simp at e
  | _, _, _, 0, v, .cons a r, .cons c t, e => by simp at e; subst e; exact ⟨_, _, a, c, List.mem_cons_self⟩
  | _, _, _, i + 1, v, .cons a r, .cons c t, e => by
    obtain ⟨x, b, h1, h2, h3⟩ := eachAt35 (i := i) r t (by simpa using e)
    exact ⟨x, b, h1, h2, List.mem_cons_of_mem _ h3⟩
theorem cr_minP (hc : X.calm = true) (hu : X.A.units + 65 < cLine) : CallR X (.builtin "min") (rMinP X.K) := by
  intro pins s σ H xs us Q I rr hh
  obtain ⟨p, ys, bs, rfl, hs, hp, hl, q⟩ := hh
  obtain ⟨its, rv, pl, zl⟩ := I.list hs
  obtain ⟨u, rfl, ru⟩ := vals1 rr
  obtain rfl : u = Value.ref p := ru
  obtain ⟨as, ra⟩ := readsAll35 I rv hp
  cases bs with
  | nil => simp at hl
  | cons b bs =>
    rw [List.map_cons] at ra
    refine PySem.W.min_list_data (vs := its.toArray) (I.ok.hd hc) pl.isList (by rw [List.toList_toArray]; exact ra) ⟨fun x hx y hy => ?_, fun x hx => ?_⟩ ?_ fun i v h' tk cs hv rd hk => ?_
    · have : ∀ z ∈ encP b :: bs.map encP, ∃ c, z = encP c := fun z hz => by
        rcases List.mem_cons.mp hz with rfl | hz
        · exact ⟨b, rfl⟩
        · obtain ⟨c, _, rfl⟩ := List.mem_map.mp hz
          exact ⟨c, rfl⟩
      obtain ⟨c, rfl⟩ := this x hx
      obtain ⟨c', rfl⟩ := this y hy
      rfl
    · rcases List.mem_cons.mp hx with rfl | hx
      · intro z; cases z
      · obtain ⟨c, _, rfl⟩ := List.mem_map.mp hx
        intro z; cases z
    · have hd : ∀ l : List (Int × Int), PyData.depthAll (l.map encP) ≤ 1 := by
        intro l
        induction l with
        | nil => simp [PyData.depthAll]
        | cons c l ih =>
          rw [List.map_cons]
          have : (encP c).depth ≤ 1 := by unfold encP; simp [PyData.depth, PyData.depthAll]
          simp only [PyData.depthAll]
          omega
      have := hd (b :: bs)
      rw [List.map_cons] at this
      omega
    · rw [minD_pairs] at rd
      obtain ⟨x, c, rx, px, hm⟩ := eachAt35 rv hp (by simpa using hv)
      have r0 := reads_pair I rx px
      obtain ⟨e1, _⟩ := reads_det (fun b o e _ => hk b o e) r0 rd
      have ec : minP (b :: bs) = c := by
        unfold encP at e1
        simp only [PyData.tuple.injEq, List.cons.injEq, PyData.int.injEq, and_true] at e1
        exact Prod.ext e1.1 e1.2
      exact ⟨x, H, I.kept hk, rx, q x (by rw [ec]; exact px)⟩
theorem cr_minA (hc : X.calm = true) (hu : X.A.units + 65 < cLine) : CallR X (.builtin "min") (rMinA X.K) := by
  intro pins s σ H xs us Q I rr hh
  rcases hh with hh | hh
  · exact cr_min hc pins s σ H xs us Q I rr hh
  · exact cr_minP hc hu pins s σ H xs us Q I rr hh
end
def dMinA : List D → MH → R D
  | [x], h => match x with
    | .ref i => match (getL h i).bind allInt with
      | some ns => if 0 < ns.length then .ok (.int (minI ns)) h else .bad
      | none => match (getL h i).bind allPair with
        | some ps => if 0 < ps.length then .ok (pairD (minP ps)) h else .bad
        | none => .bad
    | _ => .bad
  | _, _ => .bad
theorem sn_minA {g : G} : SN g (rMinA g.K) dMinA := sn1 (fun H μ h x a Q W hr va bk => by
  cases va with
  | @ref p i hi =>
    simp only [dMinA] at bk
    split at bk
    · rename_i ns q
      obtain ⟨l, q1, q2⟩ := Option.bind_eq_some_iff.mp q
      obtain ⟨xs, hs, vs⟩ := hr.list hi q1
      split at bk
      · rename_i c
        refine .inl ⟨p, ns, rfl, by rw [← ints_of vs q2]; exact hs, c, fun m h1 h2 => ?_⟩
        rw [minI_low h1 h2] at bk
        exact bk.val hr (.int _)
      · exact bk.elim
    · split at bk
      · rename_i ps q
        obtain ⟨l, q1, q2⟩ := Option.bind_eq_some_iff.mp q
        obtain ⟨xs, hs, vs⟩ := hr.list hi q1
        split at bk
        · rename_i c
          refine .inr ⟨p, xs, ps, rfl, hs, pairsV_of vs q2, c, fun z hz => ?_⟩
          obtain ⟨q, rfl, tk⟩ := hz
          exact bk.val hr (.tup tk (.cons (.int _) (.cons (.int _) .nil)))
        · exact bk.elim
      · exact bk.elim
  | _ => exact bk.elim) (fun _ => rfl) (fun a b l h => by simp [dMinA])
/-! ### x >> y -/
def dShr : D → D → MH → R D
  | .int i, .int j, h => if 0 ≤ j then .ok (.int (i / 2 ^ j.toNat)) h else .bad
  | _, _, _ => .bad
theorem s2_shr {g : G} : S2 g (rI (fun _ j => 0 ≤ j) fun i j => .int (i / 2 ^ j.toNat)) dShr := s2_int (C := fun _ j => 0 ≤ j) (o := fun i j => i / 2 ^ j.toNat) (fun _ _ _ => rfl) (int_bad fun a b h => by cases a <;> cases b <;> first | trivial | rfl)
theorem w_shr {i : Int} {n : Nat} {h : MH} {Q : D → MH → Prop} {E : XE} (q : Q (.int (i / 2 ^ n)) h) : Sat (dShr (.int i) (.int (n : Int)) h) Q E := w_eq (by simp only [dShr]; rw [if_pos (by omega), Int.toNat_natCast]) q
/-! ### the calculus -/
section
variable {Q : D → MH → Prop} {E : XE} {h : MH} {ρ : Slots}
theorem allInt_pair : ∀ {l : List (Int × Int)}, 0 < l.length → allInt (l.map pairD) = none
  | _ :: _, _ => rfl
theorem w_minP {i : Nat} {l : List (Int × Int)} (e : getL h i = some (l.map pairD)) (hl : 0 < l.length) (q : Q (pairD (minP l)) h) : Sat (dMinA [.ref i] h) Q E := w_eq (by simp only [dMinA, e, Option.bind_some, allInt_pair hl, allPair_map, if_pos hl]) q
end
end Mi
namespace Mi
open PySem L2
def m_least_75c60 : List D → MH → R D := mFun 2 6
 (mSeq (mAsg 2 (mCall (m_bit_of_97f34) (mCons (mVar 0) (mCons (mVar 1) (mNil)))))
 (mSeq (mAsg 3 (mCall (m_sizes_9dfee) (mCons (mVar 0) (mNil))))
 (mSeq (mAsg 4 (mLst (mNil)))
 (mSeq (mFor (mRange1 (mCall dLen (mCons (mVar 3) (mNil)))) (mgName 5)
 (mIf (mAnd (mB (mBin dNotN (mBin dIx (mVar 3) (mVar 5)) (mC .non))) (mB (mCall (m_has_bit_05807) (mCons (mVar 0) (mCons (mVar 5) (mCons (mVar 2) (mNil)))))))
 (mDrop (mMeth isListD dAppend (mVar 4) (mCons (mTup (mCons (mBin dIx (mVar 3) (mVar 5)) (mCons (mVar 5) (mNil)))) (mNil))))
 (mSkip)))
 (mSeq (mIf (mB (mBin dEq (mVar 4) (mLst (mNil))))
 (mRet (mC .non))
 (mSkip))
 (mRet (mCall (m_makings_of_8c00c) (mCons (mVar 0) (mCons (mBin dIx (mCall dMinA (mCons (mVar 4) (mNil))) (mC (.int 1))) (mNil))))))))))
end Mi
namespace Mi
open PySem L2
local macro_rules | `(tactic| walk_at "gl") => `(tactic| first
  | assumption
  | (refine Own.atL (h0 := ?_) (L := ?_) ?_ 0 ?_; rotate_left; rotate_left; assumption; rfl)
  | (refine Own.atL (h0 := ?_) (L := ?_) ?_ 1 ?_; rotate_left; rotate_left; assumption; rfl)
  | (refine Own.atL (h0 := ?_) (L := ?_) ?_ 2 ?_; rotate_left; rotate_left; assumption; rfl)
  | (refine Own.atL (h0 := ?_) (L := ?_) ?_ 3 ?_; rotate_left; rotate_left; assumption; rfl)
  | (refine Own.atL (h0 := ?_) (L := ?_) ?_ 4 ?_; rotate_left; rotate_left; assumption; rfl)
  | (refine Own.atL (h0 := ?_) (L := ?_) ?_ 5 ?_; rotate_left; rotate_left; assumption; rfl)
  | (refine Own.atL (h0 := ?_) (L := ?_) ?_ 6 ?_; rotate_left; rotate_left; assumption; rfl)
  | (refine Own.atL (h0 := ?_) (L := ?_) ?_ 7 ?_; rotate_left; rotate_left; assumption; rfl)
  | (refine Own.atL (h0 := ?_) (L := ?_) ?_ 8 ?_; rotate_left; rotate_left; assumption; rfl)
  | (refine Own.atL (h0 := ?_) (L := ?_) ?_ 9 ?_; rotate_left; rotate_left; assumption; rfl)
  | (refine Own.getL (h0 := ?_) (L := ?_) ?_ ?_; rotate_left; rotate_left; assumption; assumption))
local macro_rules | `(tactic| walk_at "il") => `(tactic| first
  | (refine Own.isL (h0 := ?_) (L := ?_) (l := ?_) ?_ 0 ?_; rotate_left; rotate_left; rotate_left; assumption; rfl)
  | (refine Own.isL (h0 := ?_) (L := ?_) (l := ?_) ?_ 1 ?_; rotate_left; rotate_left; rotate_left; assumption; rfl)
  | (refine Own.isL (h0 := ?_) (L := ?_) (l := ?_) ?_ 2 ?_; rotate_left; rotate_left; rotate_left; assumption; rfl)
  | (refine Own.isL (h0 := ?_) (L := ?_) (l := ?_) ?_ 3 ?_; rotate_left; rotate_left; rotate_left; assumption; rfl)
  | (refine Own.isL (h0 := ?_) (L := ?_) (l := ?_) ?_ 4 ?_; rotate_left; rotate_left; rotate_left; assumption; rfl)
  | (refine Own.isL (h0 := ?_) (L := ?_) (l := ?_) ?_ 5 ?_; rotate_left; rotate_left; rotate_left; assumption; rfl)
  | (refine Own.isL (h0 := ?_) (L := ?_) (l := ?_) ?_ 6 ?_; rotate_left; rotate_left; rotate_left; assumption; rfl)
  | (refine Own.isL (h0 := ?_) (L := ?_) (l := ?_) ?_ 7 ?_; rotate_left; rotate_left; rotate_left; assumption; rfl)
  | (refine Own.isL (h0 := ?_) (L := ?_) (l := ?_) ?_ 8 ?_; rotate_left; rotate_left; rotate_left; assumption; rfl)
  | (refine Own.isL (h0 := ?_) (L := ?_) (l := ?_) ?_ 9 ?_; rotate_left; rotate_left; rotate_left; assumption; rfl))
local macro_rules | `(tactic| walk_at "bd") => `(tactic| first | assumption | omega | (simp; done) | (simp; omega) | (simp [*]; done) | (simp [*]; omega))
local macro_rules | `(tactic| walk_at "w") => `(tactic| first
  | with_reducible refine w_seq ?_
  | with_reducible refine w_asg ?_
  | with_reducible refine w_cons ?_
  | with_reducible refine w_nil ?_
  | with_reducible refine w_c ?_
  | ((with_reducible refine w_var (d := ?_) ?_ ?_); rotate_left; rfl)
  | with_reducible refine w_bin ?_
  | with_reducible refine w_call ?_
  | with_reducible refine w_if ?_
  | with_reducible refine w_B ?_
  | with_reducible refine w_unB ?_
  | with_reducible refine w_ret ?_
  | with_reducible refine w_drop ?_
  | with_reducible refine w_skip ?_
  | with_reducible refine w_eq (dAdd_int _ _ _) ?_
  | with_reducible refine w_eq (dSub_int _ _ _) ?_
  | with_reducible refine w_eq (dEq_int _ _ _) ?_
  | with_reducible refine w_eq (dEq_str _ _ _) ?_
  | with_reducible refine w_eq (dNe_strs _ _ _) ?_
  | with_reducible refine w_eq (dEq_bls _ _ _) ?_
  | with_reducible refine w_eq (dNe_bls _ _ _) ?_
  | with_reducible refine w_eq (dLt_int _ _ _) ?_
  | with_reducible refine w_eq (dLe_int _ _ _) ?_
  | with_reducible refine w_eq (dGt_int _ _ _) ?_
  | with_reducible refine w_eq (dGe_int _ _ _) ?_
  | with_reducible refine w_eq (dNe_int _ _ _) ?_
  | ((with_reducible refine w_mod ?_ ?_); (first | assumption | decide | omega))
  | ((with_reducible refine w_fdiv ?_ ?_); (first | assumption | decide | omega))
  | ((with_reducible refine w_mulS ?_ ?_); (first | decide | omega))
  | ((with_reducible refine w_addS ?_ ?_); (first | assumption | decide | omega))
  | ((with_reducible refine w_lenS ?_ ?_); (first | assumption | decide | omega))
  | ((with_reducible refine w_slS ?_ ?_); (first | assumption | decide | omega))
  | with_reducible refine w_lenTm ?_
  | with_reducible refine w_eq (dLen_tup _ _) ?_
  | with_reducible refine w_eq (dSl_tup _ _ _ _) ?_
  | with_reducible refine w_eq (dMax_ev _ _ _) ?_
  | with_reducible refine w_eq (dMin_ev _ _ _) ?_
  | with_reducible refine w_eq (dAbs_ev _ _) ?_
  | with_reducible refine w_not ?_
  | with_reducible refine w_and ?_
  | with_reducible refine w_or ?_
  | with_reducible refine br_n ?_
  | with_reducible refine br_tt ?_
  | with_reducible refine br_ff ?_
  | ((with_reducible refine br_dt ?_ ?_); (first | assumption | omega | rfl))
  | ((with_reducible refine br_df ?_ ?_); (first | assumption | omega))
  | with_reducible refine w_tup ?_
  | ((with_reducible refine w_toTup ?_ ?_); exact (by simp))
  | with_reducible refine w_lst ?_
  | with_reducible refine w_lc ?_
  | with_reducible refine w_for ?_
  | with_reducible refine w_range1 ?_
  | with_reducible refine w_range2 ?_
  | ((with_reducible refine w_dR1 ?_ ?_); (first | decide | omega))
  | ((with_reducible refine w_dR2 ?_ ?_); (first | decide | omega))
  | with_reducible refine w_iter ?_
  | with_reducible refine w_eq (iter1_tup _ _) ?_
  | with_reducible refine w_eq (iter1_str _ _) ?_
  | with_reducible refine w_sl ?_
  | with_reducible refine w_no ?_
  | with_reducible refine w_some ?_
  | with_reducible refine w_unI ?_
  | with_reducible refine w_meth ?_
  | with_reducible refine w_isi ?_
  | with_reducible refine w_zip ?_
  | with_reducible refine w_ifE ?_
  | with_reducible refine w_andV ?_
  | with_reducible refine w_orV ?_
  | with_reducible refine w_notV ?_
  | with_reducible refine w_andK ?_
  | with_reducible refine w_orK ?_
  | with_reducible refine w_notK ?_
  | with_reducible refine w_revL ?_
  | with_reducible refine w_listRg1 ?_
  | with_reducible refine w_tindex ?_
  | with_reducible refine w_setIx ?_
  | with_reducible refine w_un ?_
  | with_reducible refine w_rev1 ?_
  | with_reducible refine w_rev2 ?_
  | with_reducible refine w_chain ?_
  | with_reducible refine w_chK ?_
  | with_reducible refine w_retN ?_
  | with_reducible refine w_brk ?_
  | with_reducible refine w_cont ?_
  | with_reducible refine w_asgT ?_
  | with_reducible refine w_eq (isi_str_str _ _) ?_
  | with_reducible refine w_eq (isi_int_int _ _) ?_
  | with_reducible refine w_eq (isi_tup_tup _ _) ?_
  | with_reducible refine w_eq (isi_bool_int _ _) ?_
  | with_reducible refine w_eq (isi_str_int _ _) ?_
  | ((with_reducible refine w_lenLm (α := ?_) (f := ?_) (l := ?_) ?_ ?_); rotate_left; rotate_left; rotate_left; walk_at "gl")
  | ((with_reducible refine w_lenL (l := ?_) ?_ ?_); rotate_left; walk_at "gl")
  | ((with_reducible refine w_iterL (l := ?_) ?_ ?_); rotate_left; walk_at "gl"; dsimp only)
  | ((with_reducible refine w_tupL (l := ?_) ?_ ?_); rotate_left; walk_at "gl")
  | ((with_reducible refine w_ixT (d := ?_) ?_ ?_); rotate_left; (first | with_reducible assumption | rfl))
  | ((with_reducible refine w_ixL (l := ?_) (d := ?_) ?_ ?_ ?_); rotate_left; rotate_left; walk_at "gl"; (first | with_reducible assumption | rfl))
  | ((with_reducible refine w_addT ?_ ?_); walk_at "bd")
  | ((with_reducible refine ⟨?_, ?_⟩); (with_reducible (show isListD (.ref _) _ = true)); walk_at "il")
  | with_reducible refine w_tryK ?_
  | with_reducible refine w_raise ?_
  | with_reducible refine w_raise0 ?_
  | with_reducible refine w_isX ?_
  | ((with_reducible refine w_isXK (k := ?_) ?_ ?_); rotate_left; (first | with_reducible exact lkA | (apply lkB; decide +kernel; exact lkA) | (apply lkB; decide +kernel; apply lkB; decide +kernel; exact lkA) | (apply lkB; decide +kernel; apply lkB; decide +kernel; apply lkB; decide +kernel; exact lkA)))
  | with_reducible refine w_xf ?_
  | ((with_reducible refine w_xfK ?_ ?_ ?_); (exact List.mem_cons_self); (decide))
  | with_reducible refine w_eq (isN_xo _) ?_
  | with_reducible refine w_eq (dNeg_int _ _) ?_)
local macro_rules | `(tactic| walk_at "go") => `(tactic| (repeat (walk_at "w")); try dsimp only [List.set])
local macro_rules | `(tactic| walk_at "fn") => `(tactic| ((refine w_fun ?_); simp only [startD, List.map_cons, List.map_nil, List.reduceReplicate, Nat.reduceSub, List.cons_append, List.nil_append]; walk_at "go"))
section
open PySem L2

local macro_rules | `(tactic| walk_at "w") => `(tactic| first
  | with_reducible refine w_eq (notN_non _) ?_
  | with_reducible refine w_eq (notN_int _ _) ?_
  | with_reducible refine w_eq (isN_non _) ?_
  | with_reducible refine w_eq (isN_int _ _) ?_)
/-! ### the least of pairs -/
theorem minP_spec : ∀ {l : List (Int × Int)}, 0 < l.length → minP l ∈ l ∧ ∀ y ∈ l, leP (minP l) y = true
  | b :: bs, _ => by
    have key : ∀ (bs : List (Int × Int)) (b : Int × Int), (bs.foldl (fun a y => if ltP y a then y else a) b = b ∨ bs.foldl (fun a y => if ltP y a then y else a) b ∈ bs) ∧ leP (bs.foldl (fun a y => if ltP y a then y else a) b) b = true ∧ ∀ y ∈ bs, leP (bs.foldl (fun a y => if ltP y a then y else a) b) y = true := by
      intro bs
      induction bs with
      | nil => intro b; exact ⟨.inl rfl, by unfold leP; simp, by simp⟩
      | cons c bs ih =>
        intro b
        rw [List.foldl_cons]
        obtain ⟨h1, h2, h3⟩ := ih (if ltP c b then c else b)
        generalize bs.foldl (fun a y => if ltP y a then y else a) (if ltP c b then c else b) = m at *
        have e : leP (if ltP c b then c else b) b = true ∧ leP (if ltP c b then c else b) c = true := by
          cases q : ltP c b with
          | true =>
            rw [if_pos rfl]
            unfold ltP at q
            unfold leP
            simp only [decide_eq_true_eq] at q ⊢
            refine ⟨by omega, by simp⟩
          | false =>
            rw [if_neg (by decide)]
            unfold ltP at q
            unfold leP
            simp only [decide_eq_true_eq, decide_eq_false_iff_not] at q ⊢
            refine ⟨by simp, by omega⟩
        refine ⟨?_, leP_trans47 _ _ _ h2 e.1, fun y hy => ?_⟩
        · rcases h1 with h1 | h1
          · rw [h1]
            split
            · right; exact List.mem_cons_self
            · left; rfl
          · right; exact List.mem_cons_of_mem _ h1
        · rcases List.mem_cons.mp hy with rfl | hy
          · exact leP_trans47 _ _ _ h2 e.2
          · exact h3 y hy
    obtain ⟨h1, h2, h3⟩ := key bs b
    refine ⟨?_, fun y hy => ?_⟩
    · show bs.foldl _ b ∈ _
      rcases h1 with h1 | h1
      · rw [h1]; exact List.mem_cons_self
      · exact List.mem_cons_of_mem _ h1
    · rcases List.mem_cons.mp hy with rfl | hy
      · exact h2
      · exact h3 y hy
def pairP (p : Int × Int) : PyData := .tuple [.int p.1, .int p.2]
theorem pairP_lay : ∀ l : List (Int × Int), PyData.canLayAll0 (l.map pairP) = true ∧ PyData.depthAll (l.map pairP) ≤ 1
  | [] => ⟨rfl, by decide⟩
  | e :: l => by
    obtain ⟨h1, h2⟩ := pairP_lay l
    have d1 : PyData.depth (pairP e) = 1 := rfl
    refine ⟨?_, ?_⟩
    · rw [List.map_cons, PyData.canLayAll0, h1]; rfl
    · rw [List.map_cons, PyData.depthAll, d1]; omega
theorem eq_pairs48 {h : MH} {i j : Nat} {l : List (Int × Int)} (ei : getL h i = some (l.map pairD)) (ej : getL h j = some []) : eqD (.ref i) (.ref j) h = some (decide (l = [])) := by
  have py : (allSome ((l.map pairD).map (pyOf 59 h))) = some (l.map pairP) := by
    rw [List.map_map, ← allSome_map pairP l]
    congr 1
  obtain ⟨h1, h2⟩ := pairP_lay l
  have sh : SeqAt.shaped (.list (l.map pairP)) = true := by
    unfold SeqAt.shaped
    rw [PyData.canLay0, h1, PyData.depth]
    have : PyData.depthAll (l.map pairP) + 1 ≤ 64 := by omega
    simp only [Bool.true_and, decide_eq_true_eq]
    omega
  have sh0 : SeqAt.shaped (.list []) = true := rfl
  unfold eqD
  rw [if_neg (by simp [scalD])]
  simp only [pyOf, ei, ej, Option.bind_some, py, Option.map_some, List.map_nil, allSome, sh, sh0, true_and, if_true, PyData.eqv]
  cases l with
  | nil => rfl
  | cons a l => simp [PyData.eqvAll]
section
variable {fs ns : List Str} {st : List Int} {sp : List (List Int)} {mk : List Int}
theorem k_hasbit48 {s j : Nat} {m : Int} {h : MH} (em : mk[s]? = some m) (hm : 0 ≤ m) : Sat (m_has_bit_05807 [gmD fs ns st sp mk, .int (s : Int), .int (2 ^ j)] h) (fun d h' => h' = h ∧ d = .bl (bt m j)) noX := by
  have a1 : atI (mk.map D.int) (s : Int) = some (.int m) := atI_at (by rw [List.getElem?_map, em]; rfl)
  unfold gmD
  walk_at "fn"
  refine w_eq (rfl : dBand (.int _) (.int _) _ = .ok (.int _) _) ?_
  walk_at "go"
  refine ⟨rfl, ?_⟩
  rw [band_pow hm]
  simp
/-- the states that have a document and the bit -/
def hit48 (t : Tb) (mk : List Int) (j : Nat) (s : Nat) : Bool := decide (0 < szO t s) && bt (mk.getD s 0) j
theorem hit48_iff {t : Tb} {j s : Nat} (hp : ∀ s z : Nat, t[s]? = some (some z) → 1 ≤ z) : hit48 t mk j s = true ↔ ∃ z, t[s]? = some (some z) ∧ bt (mk.getD s 0) j = true := by
  unfold hit48 szO
  rw [Bool.and_eq_true, decide_eq_true_eq, List.getD_eq_getElem?_getD]
  cases e : t[s]? with
  | none => simp [oN]
  | some o =>
    cases o with
    | none => simp [oN]
    | some z =>
      have := hp s z e
      simp [oN]
      omega
structure Lst48 (ns : List Str) (st : List Int) (sp : List (List Int)) (mk : List Int) (t : Tb) (j : Nat) (d : D) : Prop where
  go : ((∀ s, s < sp.length → hit48 t mk j s = false) ∧ d = .non) ∨ ∃ s0 es ss, s0 < sp.length ∧ hit48 t mk j s0 = true ∧ (∀ s, s < sp.length → hit48 t mk j s = true → szO t s0 ≤ szO t s) ∧ d = .tup es ∧ Mkg ns st sp t es (ss ++ [s0])
theorem k_least48 {h : MH} (g : G47 ns st sp mk) (hm0 : ∀ z ∈ mk, 0 ≤ z) (hfl : fs.length ≤ 1000) {f : Str} {t : Tb} (iv : SInv st sp t) (hc : closed sp t) :
    Sat (m_least_75c60 [gmD fs ns st sp mk, .str f] h) (fun d h' => h <+: h' ∧ ∃ j : Nat, fidx f fs = some j ∧ Lst48 ns st sp mk t j d) (fun x l h' => h <+: h' ∧ x = Str.ofString "NoForm" ∧ l = [(Str.ofString "form", .str f)] ∧ f ∉ fs) := by
  have hn := g.hn
  have hlen := iv.len
  have hmk := g.hmk
  walk_at "fn"
  refine (cc_bitof hfl).monoE ?_ ?_
  rotate_left
  · rintro x l h' ⟨rfl, rfl, rfl, hf⟩
    exact ⟨List.prefix_rfl, rfl, rfl, hf⟩
  rintro d h1 ⟨rfl, j, ej, rfl⟩
  walk_at "go"
  refine (cc_sizes45 g.gr g.hn g.hst g.hmk).mono ?_
  rintro d h2 ⟨p2, t', rfl, iv', hc'⟩
  obtain rfl := sizes_det47 iv iv' hc hc'
  walk_at "go"
  refine o_new ((Own.nil _).ext p2) (by simp) fun js h3 o3 => ?_
  walk_at "go"
  refine w_loop0 (fun k ρ h' => ∃ (o5 : Option D) (l : List Nat), ρ = [some (gmD fs ns st sp mk), some (.str f), some (.int (2 ^ j)), some (.tup (t.map oD)), some (.ref js), o5] ∧ Own h1 h' [(js, (l.map (prI t)).map pairD)] ∧ l = (List.range k).filter (hit48 t mk j)) ⟨none, [], rfl, o3, rfl⟩ (fun _ _ _ _ => rfl) ?_ ?_
  · rintro s d ρ h4 hd ⟨o5, l, rfl, ow, hl⟩
    obtain ⟨hs, rfl⟩ := rangeD_get hd
    have hs' : s < t.length := by simpa using hs
    have e0 := getE (l := t) (i := s) hs'
    have em : mk[s]? = some (mk.getD s 0) := by rw [List.getD_eq_getElem?_getD, getE (l := mk) (i := s) (by omega)]; rfl
    have hll : l.length ≤ s := by
      rw [hl]
      refine Nat.le_trans (List.length_filter_le _ _) ?_
      simp
    have sn : (List.range (s + 1)).filter (hit48 t mk j) = l ++ (if hit48 t mk j s then [s] else []) := by
      rw [List.range_succ, List.filter_append, ← hl]
      congr 1
      rw [List.filter_cons, List.filter_nil]
    generalize ht : t[s] = o at e0
    have a0 := tb_at e0
    refine ⟨_, rfl, ?_⟩
    rw [show (0 : Int) + (s : Int) = (s : Int) by omega]
    dsimp only [List.set]
    cases o with
    | none =>
      have hh : hit48 t mk j s = false := by
        cases e : hit48 t mk j s with
        | false => rfl
        | true =>
          obtain ⟨z, e2, _⟩ := (hit48_iff (fun s z e => (iv.pos s z e).1)).mp e
          rw [e0] at e2; simp at e2
      rw [oD] at a0
      walk_at "go"
      exact ⟨_, l, rfl, ow, by rw [sn, hh]; simp⟩
    | some z =>
      rw [oD] at a0
      walk_at "go"
      refine (k_hasbit48 em (hm0 _ (List.mem_of_getElem? em))).mono ?_
      rintro d h5 ⟨rfl, rfl⟩
      have hh : hit48 t mk j s = bt (mk.getD s 0) j := by
        unfold hit48
        rw [szO_of e0, decide_eq_true (show 0 < z from (iv.pos _ _ e0).1), Bool.true_and]
      cases hb : bt (mk.getD s 0) j with
      | false =>
        walk_at "go"
        exact ⟨_, l, rfl, ow, by rw [sn, hh, hb]; simp⟩
      | true =>
        walk_at "go"
        refine o_app ow 0 rfl (by simp; omega) fun h6 o6 => ?_
        rw [List.set_cons_zero] at o6
        refine ⟨_, l ++ [s], rfl, ?_, by rw [sn, hh, hb]; simp⟩
        rw [List.map_append, List.map_append]
        have : (List.map pairD (List.map (prI t) [s])) = [.tup [.int (z : Int), .int (s : Int)]] := by
          simp only [List.map_cons, List.map_nil, pairD, prI, szO_of e0]
        rw [this]
        exact o6
  · rintro ρ h4 ⟨o5, l, rfl, ow, hl⟩
    rw [rangeD_length] at hl
    have hlm : ∀ s, s ∈ l ↔ s < sp.length ∧ hit48 t mk j s = true := fun s => by
      rw [hl, List.mem_filter, List.mem_range]
      simp [hlen]
    have hll : l.length ≤ 64 := by
      rw [hl]
      refine Nat.le_trans (List.length_filter_le _ _) ?_
      simp; omega
    walk_at "go"
    refine o_new ow (by simp) fun jn h5 o5' => ?_
    have gw := o5'.atL 1 rfl
    have eg : eqD (.ref js) (.ref jn) h5 = some (decide (l = [])) := by
      have := eq_pairs48 gw (o5'.atL 0 rfl)
      rw [this]
      congr 1
      rw [Bool.eq_iff_iff]
      simp
    refine w_eqK eg ?_
    by_cases hnil : l = []
    · rw [decide_eq_true hnil]
      walk_at "go"
      refine ⟨o5'.pre, j, ej, ⟨.inl ⟨fun s hs => ?_, rfl⟩⟩⟩
      cases e : hit48 t mk j s with
      | false => rfl
      | true =>
        have := (hlm s).mpr ⟨hs, e⟩
        rw [hnil] at this
        simp at this
    · rw [decide_eq_false hnil]
      have hpos : 0 < ((l.map (prI t))).length := by
        rw [List.length_map]
        exact List.length_pos_iff.mpr hnil
      obtain ⟨m1, m2⟩ := minP_spec hpos
      walk_at "go"
      refine w_minP gw hpos ?_
      obtain ⟨s0, hs0, e0⟩ := List.mem_map.mp m1
      rw [← e0] at m2 ⊢
      unfold pairD prI
      walk_at "go"
      obtain ⟨q1, q2⟩ := (hlm s0).mp hs0
      refine (k_makings47 g.gr g.hn g.hst g.hmk g.stl g.nd g.nn g.hnl q1).mono ?_
      rintro d h6 ⟨p6, t', iv', hc', hd⟩
      obtain rfl := sizes_det47 iv iv' hc hc'
      rcases hd with ⟨e, rfl⟩ | ⟨z, es, ss, e, rfl, M⟩
      · exfalso
        obtain ⟨z, e2, _⟩ := (hit48_iff (fun s z e => (iv.pos s z e).1)).mp q2
        rw [e] at e2; simp at e2
      · refine ⟨(o5'.pre).trans p6, j, ej, ⟨.inr ⟨s0, es, ss, q1, q2, fun s hs hh => ?_, rfl, M⟩⟩⟩
        have := m2 (prI t s) (List.mem_map.mpr ⟨s, (hlm s).mpr ⟨hs, hh⟩, rfl⟩)
        unfold leP prI at this
        simp only [decide_eq_true_eq] at this
        omega
end
end
section
open PySem L2

local macro_rules | `(tactic| walk_at "lk") => `(tactic| first | with_reducible exact lkA | (apply lkB; decide +kernel; walk_at "lk"))
local macro_rules | `(tactic| walk_at "mk") => `(tactic| first | with_reducible exact mkA | (apply mkB; decide +kernel; walk_at "mk"))
local macro_rules | `(tactic| walk_at "fk") => `(tactic| first | with_reducible exact fkA | exact fkN | (apply fkB; decide +kernel; walk_at "fk"))
local macro_rules | `(tactic| walk_at "cs") => `(tactic| first | exact List.mem_cons_self | (apply List.mem_cons_of_mem; walk_at "cs"))
local macro_rules | `(tactic| walk_at "w") => `(tactic| first
  | with_reducible refine w_fld ?_
  | ((with_reducible refine w_fldK (c := ?_) (fs := ?_) (v := ?_) ?_ ?_ ?_ ?_); rotate_left; rotate_left; rotate_left; (with_reducible assumption); (walk_at "cs"); (walk_at "fk"))
  | with_reducible refine w_setFld ?_
  | with_reducible refine w_new ?_
  | with_reducible refine w_methI ?_
  | ((with_reducible refine w_methK (c := ?_) (fs := ?_) (F := ?_) ?_ ?_ ?_ ?_); rotate_left; rotate_left; rotate_left; (with_reducible assumption); (walk_at "mk"); (walk_at "fk"))
  | with_reducible refine w_isC ?_
  | ((with_reducible refine w_isCK (c := ?_) (fs := ?_) (k := ?_) ?_ ?_ ?_); rotate_left; rotate_left; rotate_left; (with_reducible assumption); (walk_at "lk"))
  | with_reducible refine w_callD ?_
  | with_reducible refine w_mDSet ?_
  | with_reducible refine w_eq (nN_non _) ?_
  | with_reducible refine w_eq (nN_int _ _) ?_
  | with_reducible refine w_eq (nN_tup _ _) ?_
  | with_reducible refine w_eq (nN_ref _ _) ?_
  | with_reducible refine w_eq (iN_non _) ?_
  | with_reducible refine w_eq (iN_int _ _) ?_
  | with_reducible refine w_eq (iN_tup _ _) ?_
  | with_reducible refine w_eq (iN_ref _ _) ?_)
local macro_rules | `(tactic| walk_at "fk") => `(tactic| (with_reducible assumption))
/-! ### states numbered as they come: the plain run -/
def pushS (S : List D) (x : D) : Option (List D) := if x ∈ S then some S else if S.length = 64 then none else some (S ++ [x])
def pushAll : List D → List D → Option (List D)
  | [], S => some S
  | x :: xs, S => (pushS S x).bind (pushAll xs)
def atS (S : List D) (i : Nat) : D := S.getD i .non
def ev2 (f : D → D → D) (S : List D) (p k : Nat) : List D := [f (atS S p) (atS S k), f (atS S k) (atS S p)]
def rowEv (f : D → D → D) (S : List D) (p q : Nat) : List D := (List.range q).flatMap (ev2 f S p)
def runS (f : D → D → D) : Nat → List D → Nat → Option (List D)
  | 0, S, _ => some S
  | n + 1, S, p => if p < S.length then (pushAll (rowEv f S p (p + 1)) S).bind fun S' => runS f n S' (p + 1) else some S
def ixD (S : List D) (x : D) : D := .int (S.idxOf x)
def rowD2 (f : D → D → D) (F : List D) (p : Nat) : D := .tup ((List.range F.length).map fun q => ixD F (f (atS F p) (atS F q)))
def rowsD (f : D → D → D) (F : List D) : List D := (List.range F.length).map (rowD2 f F)
theorem pushS_some {S S' : List D} {x : D} (h : pushS S x = some S') : S <+: S' ∧ x ∈ S' ∧ (S.Nodup → S'.Nodup) ∧ (S.length ≤ 64 → S'.length ≤ 64) ∧ S'.length ≤ S.length + 1 ∧ ∀ s ∈ S', s ∈ S ∨ s = x := by
  unfold pushS at h
  split at h
  · rename_i z
    cases h
    exact ⟨List.prefix_rfl, z, id, id, by omega, fun s hs => .inl hs⟩
  · rename_i z
    split at h
    · cases h
    · cases h
      refine ⟨List.prefix_append _ _, by simp, fun n => ?_, fun _ => by simp; omega, by simp, fun s hs => by simpa using hs⟩
      rw [List.nodup_append]
      exact ⟨n, by simp, fun a ha b hb e => by simp at hb; subst hb; subst e; exact z ha⟩
theorem pushAll_app : ∀ (a b S : List D), pushAll (a ++ b) S = (pushAll a S).bind (pushAll b)
  | [], b, S => rfl
  | x :: a, b, S => by
    show (pushS S x).bind (pushAll (a ++ b)) = ((pushS S x).bind (pushAll a)).bind (pushAll b)
    cases pushS S x with
    | none => rfl
    | some S' => exact pushAll_app a b S'
theorem pushAll_some : ∀ {xs S S' : List D}, pushAll xs S = some S' → S <+: S' ∧ (∀ x ∈ xs, x ∈ S') ∧ (S.Nodup → S'.Nodup) ∧ (S.length ≤ 64 → S'.length ≤ 64) ∧ S'.length ≤ S.length + xs.length ∧ ∀ s ∈ S', s ∈ S ∨ s ∈ xs
  | [], S, S', h => by
    cases h
    exact ⟨List.prefix_rfl, by simp, id, id, by simp, fun s hs => .inl hs⟩
  | x :: xs, S, S', h => by
    have h : (pushS S x).bind (pushAll xs) = some S' := h
    rw [Option.bind_eq_some_iff] at h
    obtain ⟨S1, h1, h2⟩ := h
    obtain ⟨a1, a2, a3, a4, a5, a6⟩ := pushS_some h1
    obtain ⟨b1, b2, b3, b4, b5, b6⟩ := pushAll_some h2
    refine ⟨a1.trans b1, fun y hy => ?_, fun n => b3 (a3 n), fun n => b4 (a4 n), by simp; omega, fun s hs => ?_⟩
    · rcases List.mem_cons.mp hy with rfl | hy
      · exact b1.subset a2
      · exact b2 y hy
    · rcases b6 s hs with z | z
      · rcases a6 s z with w | rfl
        · exact .inl w
        · exact .inr List.mem_cons_self
      · exact .inr (List.mem_cons_of_mem _ z)
theorem atS_pre {S S' : List D} {i : Nat} (p : S <+: S') (h : i < S.length) : atS S' i = atS S i := by
  obtain ⟨t, rfl⟩ := p
  unfold atS
  rw [List.getD_eq_getElem?_getD, List.getD_eq_getElem?_getD, List.getElem?_append_left h]
theorem atS_get {S : List D} {i : Nat} (h : i < S.length) : S[i]? = some (atS S i) := by
  unfold atS
  rw [List.getD_eq_getElem?_getD, List.getElem?_eq_getElem h]
  rfl
theorem atS_mem {S : List D} {i : Nat} (h : i < S.length) : atS S i ∈ S := List.mem_of_getElem? (atS_get h)
theorem ix_pre {S S' : List D} {x : D} (p : S <+: S') (h : x ∈ S) : S'.idxOf x = S.idxOf x := by
  obtain ⟨t, rfl⟩ := p
  rw [List.idxOf_append, if_pos h]
theorem ixD_pre {S S' : List D} {x : D} (p : S <+: S') (h : x ∈ S) : ixD S' x = ixD S x := by
  unfold ixD; rw [ix_pre p h]
theorem rowEv_succ (f : D → D → D) (S : List D) (p q : Nat) : rowEv f S p (q + 1) = rowEv f S p q ++ ev2 f S p q := by
  unfold rowEv
  rw [List.range_succ, List.flatMap_append]
  simp
theorem rowEv_none {f : D → D → D} {S : List D} {p q n : Nat} (h : pushAll (rowEv f S p q) S = none) (hq : q ≤ n) : pushAll (rowEv f S p n) S = none := by
  obtain ⟨k, rfl⟩ := Nat.le.dest hq
  clear hq
  induction k with
  | zero => exact h
  | succ k ih =>
    rw [show q + (k + 1) = (q + k) + 1 by omega, rowEv_succ, pushAll_app, ih]
    rfl
theorem rowEv_mem {f : D → D → D} {S : List D} {p q a b : Nat} (h : (a = p ∧ b < q) ∨ (b = p ∧ a < q)) : f (atS S a) (atS S b) ∈ rowEv f S p q := by
  unfold rowEv
  rw [List.mem_flatMap]
  rcases h with ⟨rfl, h⟩ | ⟨rfl, h⟩
  · exact ⟨b, by simpa using h, by simp [ev2]⟩
  · exact ⟨a, by simpa using h, by simp [ev2]⟩
/-- the run goes on from what there is, and closes -/
theorem runS_some {f : D → D → D} : ∀ {n : Nat} {S F : List D} {p : Nat}, runS f n S p = some F → S <+: F ∧ (S.Nodup → F.Nodup) ∧ (S.length ≤ 64 → F.length ≤ 64)
  | 0, S, F, p, h => by cases h; exact ⟨List.prefix_rfl, id, id⟩
  | n + 1, S, F, p, h => by
    rw [runS] at h
    split at h
    · rw [Option.bind_eq_some_iff] at h
      obtain ⟨S', h1, h2⟩ := h
      obtain ⟨a1, _, a3, a4, _⟩ := pushAll_some h1
      obtain ⟨b1, b3, b4⟩ := runS_some h2
      exact ⟨a1.trans b1, fun z => b3 (a3 z), fun z => b4 (a4 z)⟩
    · cases h; exact ⟨List.prefix_rfl, id, id⟩
theorem runS_closed {f : D → D → D} : ∀ {n : Nat} {S F : List D} {p : Nat}, runS f n S p = some F → S.length ≤ 64 → 65 ≤ n + p → p ≤ S.length → (∀ a b, a < p → b < p → f (atS S a) (atS S b) ∈ S) → ∀ a b, a < F.length → b < F.length → f (atS F a) (atS F b) ∈ F
  | 0, S, F, p, h, hl, hn, hp, hc => by omega
  | n + 1, S, F, p, h, hl, hn, hp, hc => by
    rw [runS] at h
    split at h
    · rename_i lt
      rw [Option.bind_eq_some_iff] at h
      obtain ⟨S', h1, h2⟩ := h
      obtain ⟨a1, a2, a3, a4, _⟩ := pushAll_some h1
      have := a1.length_le
      refine runS_closed h2 (a4 hl) (by omega) (by omega) fun a b ha hb => ?_
      rw [atS_pre a1 (by omega), atS_pre a1 (by omega)]
      by_cases z : a = p ∨ b = p
      · exact a2 _ (rowEv_mem (by omega))
      · exact a1.subset (hc a b (by omega) (by omega))
    · cases h
      have : p = S.length := by omega
      subst this
      exact hc
theorem runS_ok {f : D → D → D} {P : D → Prop} (hf : ∀ x y, P x → P y → P (f x y)) : ∀ {n : Nat} {S F : List D} {p : Nat}, runS f n S p = some F → (∀ s ∈ S, P s) → ∀ s ∈ F, P s
  | 0, S, F, p, h, hp => by cases h; exact hp
  | n + 1, S, F, p, h, hp => by
    rw [runS] at h
    split at h
    · rename_i lt
      rw [Option.bind_eq_some_iff] at h
      obtain ⟨S', h1, h2⟩ := h
      obtain ⟨a1, a2, a3, a4, _, a6⟩ := pushAll_some h1
      refine runS_ok hf h2 fun s hs => ?_
      rcases a6 s hs with z | z
      · exact hp s z
      · unfold rowEv at z
        rw [List.mem_flatMap] at z
        obtain ⟨k, hk, z⟩ := z
        have hk : k < p + 1 := by simpa using hk
        have p1 := hp _ (atS_mem lt)
        have p2 := hp _ (atS_mem (S := S) (i := k) (by omega))
        unfold ev2 at z
        simp at z
        rcases z with rfl | rfl
        · exact hf _ _ p1 p2
        · exact hf _ _ p2 p1
    · cases h; exact hp
/-! ### the code, for any class -/
def gNumber (C : Str) : List D → MH → R D := mFun 2 2
 (mSeq (mIf (mB (mBin dANotIn (mVar 1) (mFld [C] (Str.ofString "numbers") (mVar 0))))
 (mSeq (mIf (mB (mBin dEq (mCall dLen (mCons (mFld [C] (Str.ofString "states") (mVar 0)) (mNil))) (mC (.int 64))))
 (mRaise0 (Str.ofString "TooMany"))
 (mSkip))
 (mSeq (mASet (mFld [C] (Str.ofString "numbers") (mVar 0)) (mVar 1) (mCall dLen (mCons (mFld [C] (Str.ofString "states") (mVar 0)) (mNil))))
 (mDrop (mMeth isListD dAppend (mFld [C] (Str.ofString "states") (mVar 0)) (mCons (mVar 1) (mNil))))))
 (mSkip))
 (mRet (mBin dAIx (mFld [C] (Str.ofString "numbers") (mVar 0)) (mVar 1))))
def gTables (C : Str) (num stp : List D → MH → R D) : List D → MH → R D := mFun 2 9
 (mSeq (mAsg 2 (mCall dTuple (mCons (mLc (mIter (mVar 1)) (mgName 8) (mYes) (mMethI (Str.ofString "number") [(C, num)] (mVar 0) (mCons (mVar 8) (mNil))) [8]) (mNil))))
 (mSeq (mAsg 3 (mDict0))
 (mSeq (mAsg 4 (mC (.int 0)))
 (mSeq (mWhile 1000 (mB (mBin dLt (mVar 4) (mCall dLen (mCons (mFld [C] (Str.ofString "states") (mVar 0)) (mNil)))))
 (mSeq (mFor (mRange1 (mBin dAdd (mVar 4) (mC (.int 1)))) (mgName 7)
 (mSeq (mASet (mVar 3) (mTup (mCons (mVar 4) (mCons (mVar 7) (mNil)))) (mMethI (Str.ofString "number") [(C, num)] (mVar 0) (mCons (mMethI (Str.ofString "step") [(C, stp)] (mVar 0) (mCons (mBin dIx (mFld [C] (Str.ofString "states") (mVar 0)) (mVar 4)) (mCons (mBin dIx (mFld [C] (Str.ofString "states") (mVar 0)) (mVar 7)) (mNil)))) (mNil))))
 (mASet (mVar 3) (mTup (mCons (mVar 7) (mCons (mVar 4) (mNil)))) (mMethI (Str.ofString "number") [(C, num)] (mVar 0) (mCons (mMethI (Str.ofString "step") [(C, stp)] (mVar 0) (mCons (mBin dIx (mFld [C] (Str.ofString "states") (mVar 0)) (mVar 7)) (mCons (mBin dIx (mFld [C] (Str.ofString "states") (mVar 0)) (mVar 4)) (mNil)))) (mNil))))))
 (mAsg 4 (mBin dAdd (mVar 4) (mC (.int 1))))))
 (mSeq (mAsg 5 (mCall dLen (mCons (mFld [C] (Str.ofString "states") (mVar 0)) (mNil))))
 (mSeq (mAsg 6 (mLc (mRange1 (mVar 5)) (mgName 4) (mYes) (mCall dTuple (mCons (mLc (mRange1 (mVar 5)) (mgName 7) (mYes) (mBin dAIx (mVar 3) (mTup (mCons (mVar 4) (mCons (mVar 7) (mNil))))) [7]) (mNil))) [4]))
 (mRet (mTup (mCons (mVar 2) (mCons (mCall dTuple (mCons (mVar 6) (mNil))) (mNil)))))))))))
/-! ### rules -/
theorem w_mASet {N : SP} {T : D → MH → Prop} {B C : SP} {E : SX} {ρ : Slots} {h : MH} {o i e : ME} (q : Sat (e ρ h) (fun d h1 => Sat (o ρ h1) (fun x h2 => Sat (i ρ h2) (fun y h3 => Sat (dASet x y d h3) (fun _ h4 => N ρ h4) fun x fs h => E x fs ρ h) fun x fs h => E x fs ρ h) fun x fs h => E x fs ρ h) fun x fs h => E x fs ρ h) : OS (mASet o i e ρ h) N T B C E :=
  Sat.ot (q.monoE (fun _ _ z => Sat.ot (z.monoE (fun _ _ z => Sat.ot (z.monoE (fun _ _ z => Sat.ot (z.monoE (fun _ _ z => w_nx z) fun _ _ _ z => z)) fun _ _ _ z => z)) fun _ _ _ z => z)) fun _ _ _ z => z)
theorem w_nSet {QU : Unit → MH → Prop} {E : XE} {h : MH} {i : Nat} {l : List (NestedKey × D)} {y d : D} {k : NestedKey} (c : keyD y = none) (ek : nkT y = some k) (e : getN h (.ref i) = some l) (z : l.length < 1000000) (q : QU () (h.set i (.dN (putN l k d)))) : Sat (dASet (.ref i) y d h) QU E := w_eq (by simp only [dASet, c, dNSet, ek, e, if_pos z]) q
local macro_rules | `(tactic| walk_at "w") => `(tactic| with_reducible refine w_mASet ?_)
/-- the keys that a class of states makes -/
structure GKey where
  cell : List D → MO
  ok : D → Prop
  nil : cell [] = .dK []
  nl : ∀ S l, cell S ≠ .lst l
  ni : ∀ S c f, cell S ≠ .ins c f
  notIn : ∀ (S : List D) (x : D) (h : MH) (j : Nat), h[j]? = some (cell S) → (∀ s ∈ S, ok s) → ok x → dANotIn x (.ref j) h = .ok (.bl (decide (¬ x ∈ S))) h
  ix : ∀ (S : List D) (x : D) (h : MH) (j : Nat), h[j]? = some (cell S) → (∀ s ∈ S, ok s) → ok x → x ∈ S → dAIx (.ref j) x h = .ok (.int (S.idxOf x)) h
  set : ∀ (S : List D) (x : D) (h : MH) (j : Nat), h[j]? = some (cell S) → (∀ s ∈ S, ok s) → ok x → ¬ x ∈ S → S.length < 1000000 → dASet (.ref j) x (.int S.length) h = .ok () (h.set j (cell (S ++ [x])))
def growF (jn js : Nat) (fr : List (Str × D)) : List (Str × D) := (Str.ofString "numbers", .ref jn) :: (Str.ofString "states", .ref js) :: fr
structure GC (K : GKey) (C : Str) (fr : List (Str × D)) (ig jn js : Nat) (S : List D) (h : MH) : Prop where
  ins : h[ig]? = some (.ins C (growF jn js fr))
  num : h[jn]? = some (K.cell S)
  sts : h[js]? = some (.lst S)
  nd : S.Nodup
  le : S.length ≤ 64
  ok : ∀ s ∈ S, K.ok s
section
variable {K : GKey} {C : Str} {fr : List (Str × D)} {ig jn js : Nat} {S : List D} {h : MH} {x : D}
theorem GC.ne1 (g : GC K C fr ig jn js S h) : ig ≠ jn := fun z => by
  have a := g.ins
  rw [z, g.num, Option.some.injEq] at a
  exact K.ni _ _ _ a
theorem GC.ne2 (g : GC K C fr ig jn js S h) : ig ≠ js := fun z => by
  have a := g.ins
  rw [z, g.sts] at a
  cases a
theorem GC.ne3 (g : GC K C fr ig jn js S h) : jn ≠ js := fun z => by
  have a := g.num
  rw [z, g.sts, Option.some.injEq] at a
  exact K.nl _ _ a.symm
theorem GC.keep {h' : MH} (g : GC K C fr ig jn js S h) (a : h'[ig]? = h[ig]?) (b : h'[jn]? = h[jn]?) (c : h'[js]? = h[js]?) : GC K C fr ig jn js S h' := ⟨by rw [a]; exact g.ins, by rw [b]; exact g.num, by rw [c]; exact g.sts, g.nd, g.le, g.ok⟩
theorem k_gnum (g : GC K C fr ig jn js S h) (hx : K.ok x) : Sat (gNumber C [.ref ig, x] h)
    (fun y h' => ∃ S', pushS S x = some S' ∧ y = ixD S' x ∧ GC K C fr ig jn js S' h' ∧ h'.length = h.length ∧ ∀ j, j ≠ jn → j ≠ js → h'[j]? = h[j]?)
    (fun e fs h' => h' = h ∧ e = Str.ofString "TooMany" ∧ fs = [] ∧ pushS S x = none) := by
  have hk : h[ig]? = some (.ins C ((Str.ofString "numbers", .ref jn) :: (Str.ofString "states", .ref js) :: fr)) := g.ins
  have gl := getL_of g.sts
  have n1 := g.ne1
  have n2 := g.ne2
  have n3 := g.ne3
  have hle := g.le
  unfold gNumber
  walk_at "fn"
  refine w_eq (K.notIn S x h jn g.num g.ok hx) ?_
  walk_at "go"
  refine br_d (fun q => ?_) (fun q => ?_)
  · walk_at "go"
    refine br_d (fun z => ?_) (fun z => ?_)
    · walk_at "go"
      refine ⟨rfl, rfl, rfl, ?_⟩
      unfold pushS
      rw [if_neg q, if_pos (by omega)]
    · have z' : ¬ S.length = 64 := fun w => z (by omega)
      walk_at "go"
      refine w_eq (K.set S x h jn g.num g.ok hx q (by omega)) ?_
      have c1 : (h.set jn (K.cell (S ++ [x])))[jn]? = some (K.cell (S ++ [x])) := List.getElem?_set_self (List.getElem?_eq_some_iff.mp g.num).1
      have c2 : (h.set jn (K.cell (S ++ [x])))[js]? = some (.lst S) := by rw [List.getElem?_set_ne n3]; exact g.sts
      have c3 : (h.set jn (K.cell (S ++ [x])))[ig]? = some (.ins C ((Str.ofString "numbers", .ref jn) :: (Str.ofString "states", .ref js) :: fr)) := by rw [List.getElem?_set_ne n1.symm]; exact hk
      have fr1 : ∀ j, j ≠ jn → (h.set jn (K.cell (S ++ [x])))[j]? = h[j]? := fun j hj => List.getElem?_set_ne hj.symm
      have l1 : (h.set jn (K.cell (S ++ [x]))).length = h.length := List.length_set
      generalize h.set jn (K.cell (S ++ [x])) = h1 at *
      have gl1 := getL_of c2
      walk_at "go"
      refine ⟨by rw [isListD_ref, gl1]; rfl, ?_⟩
      walk_at "go"
      refine w_app c2 (by omega) ?_
      have d1 : (h1.set js (.lst (S ++ [x])))[jn]? = some (K.cell (S ++ [x])) := by rw [List.getElem?_set_ne n3.symm]; exact c1
      have d2 : (h1.set js (.lst (S ++ [x])))[js]? = some (.lst (S ++ [x])) := List.getElem?_set_self (List.getElem?_eq_some_iff.mp c2).1
      have d3 : (h1.set js (.lst (S ++ [x])))[ig]? = some (.ins C ((Str.ofString "numbers", .ref jn) :: (Str.ofString "states", .ref js) :: fr)) := by rw [List.getElem?_set_ne n2.symm]; exact c3
      have fr2 : ∀ j, j ≠ js → (h1.set js (.lst (S ++ [x])))[j]? = h1[j]? := fun j hj => List.getElem?_set_ne hj.symm
      have l2 : (h1.set js (.lst (S ++ [x]))).length = h1.length := List.length_set
      generalize h1.set js (.lst (S ++ [x])) = h2 at *
      have hps : pushS S x = some (S ++ [x]) := by
        unfold pushS
        rw [if_neg q, if_neg z']
      obtain ⟨_, p2, p3, p4, _, p6⟩ := pushS_some hps
      have hok : ∀ s ∈ S ++ [x], K.ok s := fun s hs => by
        rcases p6 s hs with w | rfl
        · exact g.ok s w
        · exact hx
      walk_at "go"
      refine w_eq (K.ix (S ++ [x]) x h2 jn d1 hok hx p2) ?_
      exact ⟨_, hps, rfl, ⟨d3, d1, d2, p3 g.nd, p4 hle, hok⟩, by omega, fun j a b => by rw [fr2 j b, fr1 j a]⟩
  · have q' : x ∈ S := Classical.not_not.mp q
    walk_at "go"
    refine w_eq (K.ix S x h jn g.num g.ok hx q') ?_
    refine ⟨S, by unfold pushS; rw [if_pos q'], rfl, g, rfl, fun _ _ _ => rfl⟩
end
end
section
open PySem L2

local macro_rules | `(tactic| walk_at "lk") => `(tactic| first | with_reducible exact lkA | (apply lkB; decide +kernel; walk_at "lk"))
local macro_rules | `(tactic| walk_at "mk") => `(tactic| first | with_reducible exact mkA | (apply mkB; decide +kernel; walk_at "mk"))
local macro_rules | `(tactic| walk_at "fk") => `(tactic| first | with_reducible exact fkA | exact fkN | (apply fkB; decide +kernel; walk_at "fk"))
local macro_rules | `(tactic| walk_at "cs") => `(tactic| first | exact List.mem_cons_self | (apply List.mem_cons_of_mem; walk_at "cs"))
local macro_rules | `(tactic| walk_at "w") => `(tactic| first
  | with_reducible refine w_fld ?_
  | ((with_reducible refine w_fldK (c := ?_) (fs := ?_) (v := ?_) ?_ ?_ ?_ ?_); rotate_left; rotate_left; rotate_left; (with_reducible assumption); (walk_at "cs"); (walk_at "fk"))
  | with_reducible refine w_setFld ?_
  | with_reducible refine w_new ?_
  | with_reducible refine w_methI ?_
  | ((with_reducible refine w_methK (c := ?_) (fs := ?_) (F := ?_) ?_ ?_ ?_ ?_); rotate_left; rotate_left; rotate_left; (with_reducible assumption); (walk_at "mk"); (walk_at "fk"))
  | with_reducible refine w_isC ?_
  | ((with_reducible refine w_isCK (c := ?_) (fs := ?_) (k := ?_) ?_ ?_ ?_); rotate_left; rotate_left; rotate_left; (with_reducible assumption); (walk_at "lk"))
  | with_reducible refine w_callD ?_
  | with_reducible refine w_mDSet ?_
  | with_reducible refine w_eq (nN_non _) ?_
  | with_reducible refine w_eq (nN_int _ _) ?_
  | with_reducible refine w_eq (nN_tup _ _) ?_
  | with_reducible refine w_eq (nN_ref _ _) ?_
  | with_reducible refine w_eq (iN_non _) ?_
  | with_reducible refine w_eq (iN_int _ _) ?_
  | with_reducible refine w_eq (iN_tup _ _) ?_
  | with_reducible refine w_eq (iN_ref _ _) ?_)
local macro_rules | `(tactic| walk_at "fk") => `(tactic| (with_reducible assumption))
local macro_rules | `(tactic| walk_at "w") => `(tactic| with_reducible refine w_mASet ?_)
/-! ### dicts of pairs of numbers -/
def nkG (pl : List Int) : NestedKey := .tup (pl.map .num)
theorem nkDs_intG : ∀ pl : List Int, nkDs (pl.map .int) = some (pl.map .num)
  | [] => rfl
  | v :: pl => by
    show nkDs (D.int v :: pl.map .int) = _
    rw [nkDs, nkDs_intG pl]
    rfl
theorem depthAll_numG : ∀ pl : List Int, NestedKey.depthAll (pl.map .num) = 0
  | [] => rfl
  | v :: pl => by
    show NestedKey.depthAll (NestedKey.num v :: pl.map .num) = 0
    rw [NestedKey.depthAll, depthAll_numG pl]
    rfl
theorem nkT_intG (pl : List Int) : nkT (.tup (pl.map .int)) = some (nkG pl) := by
  have e : nkD (.tup (pl.map .int)) = some (nkG pl) := by
    rw [nkD, nkDs_intG]; rfl
  have hd : (nkG pl).depth ≤ 8 := by
    unfold nkG
    rw [NestedKey.depth, depthAll_numG]
    decide
  unfold nkT
  simp only [e, if_pos hd]
theorem nkG_inj {a b : List Int} (h : nkG a = nkG b) : a = b := by
  unfold nkG at h
  injection h with h
  exact List.map_inj_right (fun x y z => by injection z) |>.mp h
theorem valG_cons (p : NestedKey × D) (l : List (NestedKey × D)) (k : NestedKey) : valN (p :: l) k = if p.1 = k then some p.2 else valN l k := by
  unfold valN
  rw [List.find?_cons]
  by_cases z : p.1 = k <;> simp [z]
theorem valG_map (k : NestedKey) (d : D) (k' : NestedKey) : ∀ l : List (NestedKey × D), valN (l.map fun x => if x.1 = k then (x.1, d) else x) k' = if k' = k then (valN l k).map (fun _ => d) else valN l k'
  | [] => by simp [valN]
  | p :: l => by
    rw [List.map_cons, valG_cons, valG_map k d k' l, valG_cons, valG_cons]
    by_cases z : p.1 = k
    · rw [if_pos z]
      by_cases z2 : k' = k
      · subst z2; simp [z]
      · have z3 : ¬ p.1 = k' := fun q => z2 (by rw [← q, z])
        have z4 : ¬ k = k' := fun q => z2 q.symm
        simp [z, z2, z3, z4]
    · rw [if_neg z]
      by_cases z2 : k' = k
      · subst z2; simp [z]
      · simp [z, z2]
theorem valG_app (k : NestedKey) (d : D) (k' : NestedKey) : ∀ l : List (NestedKey × D), valN (l ++ [(k, d)]) k' = match valN l k' with
    | some v => some v
    | none => if k = k' then some d else none
  | [] => by simp [valG_cons]; simp [valN]
  | p :: l => by
    rw [List.cons_append, valG_cons, valG_app k d k' l, valG_cons]
    by_cases z : p.1 = k' <;> simp [z]
theorem valG_put (l : List (NestedKey × D)) (k : NestedKey) (d : D) (k' : NestedKey) : valN (putN l k d) k' = if k = k' then some d else valN l k' := by
  unfold putN
  split
  · rename_i z
    rw [valG_map]
    by_cases q : k = k'
    · subst q
      rw [if_pos rfl, if_pos rfl]
      obtain ⟨v, hv⟩ := Option.isSome_iff_exists.mp z
      rw [hv]; rfl
    · rw [if_neg q, if_neg fun w => q w.symm]
  · rename_i z
    rw [valG_app]
    by_cases q : k = k'
    · subst q
      have : valN l k = none := by
        cases hv : valN l k with
        | none => rfl
        | some v => rw [hv] at z; simp at z
      rw [this]
    · rw [if_neg q]
      cases valN l k' <;> simp [q]
theorem putN_len (l : List (NestedKey × D)) (k : NestedKey) (d : D) : (putN l k d).length ≤ l.length + 1 := by
  unfold putN
  split
  · simp
  · simp
theorem getN_set {h : MH} {i : Nat} {l : List (NestedKey × D)} (hi : i < h.length) : getN (h.set i (.dN l)) (.ref i) = some l := by
  simp only [getN, List.getElem?_set_self hi]
theorem getN_lt {h : MH} {i : Nat} {l : List (NestedKey × D)} (e : getN h (.ref i) = some l) : i < h.length := by
  cases q : h[i]? with
  | none => simp [getN, q] at e
  | some o => exact (List.getElem?_eq_some_iff.mp q).1
theorem getN_keep {h h' : MH} {i : Nat} {l : List (NestedKey × D)} (e : getN h (.ref i) = some l) (k : h'[i]? = h[i]?) : getN h' (.ref i) = some l := by
  simp only [getN, k]
  exact e
theorem getN_same {h h' : MH} {i : Nat} {l : List (NestedKey × D)} (e : getN h (.ref i) = some l) (k : ∀ o, h[i]? = some o → h'[i]? = some o) : getN h' (.ref i) = some l := by
  obtain ⟨o, ho⟩ : ∃ o, h[i]? = some o := ⟨_, List.getElem?_eq_getElem (getN_lt e)⟩
  exact getN_keep e (by rw [ho, k o ho])
def kPQ (a b : Nat) : NestedKey := nkG [(a : Int), (b : Int)]
theorem nkT_pq (a b : Nat) : nkT (.tup [.int (a : Int), .int (b : Int)]) = some (kPQ a b) := nkT_intG [(a : Int), (b : Int)]
theorem kPQ_iff (a b c d : Nat) : kPQ a b = kPQ c d ↔ a = c ∧ b = d := by
  constructor
  · intro h
    have := nkG_inj h
    simp at this
    omega
  · rintro ⟨rfl, rfl⟩; rfl
/-- the steps told so far -/
def StepD (f : D → D → D) (l : List (NestedKey × D)) (S : List D) (p q : Nat) : Prop := ∀ a b, ((a < p ∧ b < p) ∨ (a = p ∧ b < q) ∨ (b = p ∧ a < q)) → f (atS S a) (atS S b) ∈ S ∧ valN l (kPQ a b) = some (ixD S (f (atS S a) (atS S b)))
theorem StepD.grow {f : D → D → D} {l : List (NestedKey × D)} {S S' : List D} {p q : Nat} (s : StepD f l S p q) (pr : S <+: S') (hp : p ≤ S.length) (hq : q = 0 ∨ (p < S.length ∧ q ≤ p + 1)) : StepD f l S' p q := fun a b h => by
  rw [atS_pre pr (by omega), atS_pre pr (by omega)]
  obtain ⟨h1, h2⟩ := s a b h
  exact ⟨pr.subset h1, by rw [ixD_pre pr h1]; exact h2⟩
theorem StepD.row {f : D → D → D} {l : List (NestedKey × D)} {S : List D} {p : Nat} (s : StepD f l S p (p + 1)) : StepD f l S (p + 1) 0 := fun a b h => s a b (by omega)
/-! ### the tables -/
section
variable {K : GKey} {C : Str} {fr : List (Str × D)} {ig jn js : Nat} {f : D → D → D} {stp : List D → MH → R D} {Inv : (Nat → Prop) → List D → MH → Prop}
/-- what a step asks and gives -/
structure StpOk (K : GKey) (C : Str) (fr : List (Str × D)) (ig jn js : Nat) (f : D → D → D) (stp : List D → MH → R D) (Inv : (Nat → Prop) → List D → MH → Prop) : Prop where
  l1 : fr.lookup (Str.ofString "number") = none
  l2 : fr.lookup (Str.ofString "step") = none
  hI : ∀ Y S h h', Inv Y S h → h.length ≤ h'.length → (∀ j o, ¬ Y j → h[j]? = some o → h'[j]? = some o) → Inv Y S h'
  hY : ∀ Y S h j, Inv Y S h → h.length ≤ j → Inv (fun i => Y i ∨ i = j) S h
  hA : ∀ (Y Y' : Nat → Prop) S h, Inv Y S h → (∀ j, Y' j → Y j) → Inv Y' S h
  hM : ∀ Y S S' h, Inv Y S h → S <+: S' → Inv Y S' h
  hs : ∀ Y h x y S, Inv Y S h → Y ig → Y jn → Y js → GC K C fr ig jn js S h → x ∈ S → y ∈ S → Sat (stp [.ref ig, x, y] h) (fun z h' => z = f x y ∧ K.ok z ∧ Inv Y S h' ∧ h.length ≤ h'.length ∧ ∀ j o, Y j → h[j]? = some o → h'[j]? = some o) noX
structure GSt (K : GKey) (C : Str) (fr : List (Str × D)) (ig jn js : Nat) (Inv : (Nat → Prop) → List D → MH → Prop) (Y : Nat → Prop) (h0 : MH) (S : List D) (h : MH) : Prop where
  gc : GC K C fr ig jn js S h
  inv : Inv Y S h
  len : h0.length ≤ h.length
  kept : ∀ j o, j < h0.length → Y j → j ≠ jn → j ≠ js → h0[j]? = some o → h[j]? = some o
variable {Y : Nat → Prop} {h0 h : MH} {S : List D} {x y : D}
theorem GSt.num (ok : StpOk K C fr ig jn js f stp Inv) (g : GSt K C fr ig jn js Inv Y h0 S h) (hn : Y jn) (hs : Y js) (hx : K.ok x) : Sat (gNumber C [.ref ig, x] h)
    (fun y h' => ∃ S', pushS S x = some S' ∧ y = ixD S' x ∧ GSt K C fr ig jn js Inv Y h0 S' h' ∧ h'.length = h.length ∧ ∀ j, j ≠ jn → j ≠ js → h'[j]? = h[j]?)
    (fun e fs h' => e = Str.ofString "TooMany" ∧ fs = [] ∧ pushS S x = none ∧ GSt K C fr ig jn js Inv Y h0 S h') := by
  refine (k_gnum g.gc hx).monoE ?_ ?_
  · rintro y h' ⟨S', h1, h2, h3, h4, h5⟩
    refine ⟨S', h1, h2, ⟨h3, ok.hI Y S' h h' (ok.hM Y S S' h g.inv (pushS_some h1).1) (by omega) fun j o nj e => ?_, by have := g.len; omega, fun j o l y1 y2 y3 e => ?_⟩, h4, h5⟩
    · rw [h5 j (fun z => nj (z ▸ hn)) (fun z => nj (z ▸ hs))]; exact e
    · rw [h5 j y2 y3]; exact g.kept j o l y1 y2 y3 e
  · rintro e fs h' ⟨rfl, h2, h3, h4⟩
    exact ⟨h2, h3, h4, g⟩
theorem GSt.step (ok : StpOk K C fr ig jn js f stp Inv) (g : GSt K C fr ig jn js Inv Y h0 S h) (hg : Y ig) (hn : Y jn) (hs : Y js) (hx : x ∈ S) (hy : y ∈ S) : Sat (stp [.ref ig, x, y] h)
    (fun z h' => z = f x y ∧ K.ok z ∧ GSt K C fr ig jn js Inv Y h0 S h' ∧ h.length ≤ h'.length ∧ ∀ j o, Y j → h[j]? = some o → h'[j]? = some o) noX := by
  refine (ok.hs Y h x y S g.inv hg hn hs g.gc hx hy).mono ?_
  rintro z h' ⟨h1, h2, h3, h4, h5⟩
  refine ⟨h1, h2, ⟨?_, h3, by have := g.len; omega, fun j o l y1 y2 y3 e => h5 j o y1 (g.kept j o l y1 y2 y3 e)⟩, h4, h5⟩
  have c := g.gc
  exact ⟨h5 _ _ hg c.ins, h5 _ _ hn c.num, h5 _ _ hs c.sts, c.nd, c.le, c.ok⟩
theorem GSt.set {c : Nat} {o : MO} (ok : StpOk K C fr ig jn js f stp Inv) (g : GSt K C fr ig jn js Inv Y h0 S h) (hc : Y c) (h1 : h0.length ≤ c) (n1 : c ≠ ig) (n2 : c ≠ jn) (n3 : c ≠ js) : GSt K C fr ig jn js Inv Y h0 S (h.set c o) :=
  ⟨g.gc.keep (List.getElem?_set_ne n1) (List.getElem?_set_ne n2) (List.getElem?_set_ne n3), ok.hI Y S h _ g.inv (by simp) (fun j o' nj e => by rw [List.getElem?_set_ne (fun (z : c = j) => nj (by rw [← z]; exact hc))]; exact e), by simpa using g.len, fun j o' l y1 y2 y3 e => by rw [List.getElem?_set_ne (by omega)]; exact g.kept j o' l y1 y2 y3 e⟩
theorem GSt.app {h' : MH} (ok : StpOk K C fr ig jn js f stp Inv) (g : GSt K C fr ig jn js Inv Y h0 S h) (p : h <+: h') : GSt K C fr ig jn js Inv Y h0 S h' :=
  ⟨⟨pre_get p g.gc.ins, pre_get p g.gc.num, pre_get p g.gc.sts, g.gc.nd, g.gc.le, g.gc.ok⟩, ok.hI Y S h _ g.inv p.length_le (fun j o' nj e => pre_get p e), by have := g.len; have := p.length_le; omega, fun j o' l y1 y2 y3 e => pre_get p (g.kept j o' l y1 y2 y3 e)⟩
theorem GSt.more {c : Nat} (ok : StpOk K C fr ig jn js f stp Inv) (g : GSt K C fr ig jn js Inv Y h0 S h) (hc : h.length ≤ c) : GSt K C fr ig jn js Inv (fun i => Y i ∨ i = c) h0 S h :=
  ⟨g.gc, ok.hY Y S h c g.inv hc, g.len, fun j o l y1 y2 y3 e => by
    rcases y1 with y1 | rfl
    · exact g.kept j o l y1 y2 y3 e
    · have := g.len; omega⟩
end
end
section
open PySem L2

local macro_rules | `(tactic| walk_at "lk") => `(tactic| first | with_reducible exact lkA | (apply lkB; decide +kernel; walk_at "lk"))
local macro_rules | `(tactic| walk_at "mk") => `(tactic| first | with_reducible exact mkA | (apply mkB; decide +kernel; walk_at "mk"))
local macro_rules | `(tactic| walk_at "fk") => `(tactic| first | with_reducible exact fkA | exact fkN | (apply fkB; decide +kernel; walk_at "fk"))
local macro_rules | `(tactic| walk_at "cs") => `(tactic| first | exact List.mem_cons_self | (apply List.mem_cons_of_mem; walk_at "cs"))
local macro_rules | `(tactic| walk_at "w") => `(tactic| first
  | with_reducible refine w_fld ?_
  | ((with_reducible refine w_fldK (c := ?_) (fs := ?_) (v := ?_) ?_ ?_ ?_ ?_); rotate_left; rotate_left; rotate_left; (with_reducible assumption); (walk_at "cs"); (walk_at "fk"))
  | with_reducible refine w_setFld ?_
  | with_reducible refine w_new ?_
  | with_reducible refine w_methI ?_
  | ((with_reducible refine w_methK (c := ?_) (fs := ?_) (F := ?_) ?_ ?_ ?_ ?_); rotate_left; rotate_left; rotate_left; (with_reducible assumption); (walk_at "mk"); (walk_at "fk"))
  | with_reducible refine w_isC ?_
  | ((with_reducible refine w_isCK (c := ?_) (fs := ?_) (k := ?_) ?_ ?_ ?_); rotate_left; rotate_left; rotate_left; (with_reducible assumption); (walk_at "lk"))
  | with_reducible refine w_callD ?_
  | with_reducible refine w_mDSet ?_
  | with_reducible refine w_eq (nN_non _) ?_
  | with_reducible refine w_eq (nN_int _ _) ?_
  | with_reducible refine w_eq (nN_tup _ _) ?_
  | with_reducible refine w_eq (nN_ref _ _) ?_
  | with_reducible refine w_eq (iN_non _) ?_
  | with_reducible refine w_eq (iN_int _ _) ?_
  | with_reducible refine w_eq (iN_tup _ _) ?_
  | with_reducible refine w_eq (iN_ref _ _) ?_)
local macro_rules | `(tactic| walk_at "fk") => `(tactic| (with_reducible assumption))
local macro_rules | `(tactic| walk_at "w") => `(tactic| with_reducible refine w_mASet ?_)
/-- what stands stands on, but for the list at c -/
def SvG (c : Nat) (h1 h2 : MH) : Prop := (∃ l, h1[c]? = some (.lst l)) ∧ ∀ (j : Nat) (o : MO), j ≠ c → h1[j]? = some o → h2[j]? = some o
theorem o_compG {h0 h : MH} {L : LL} {Q : D → MH → Prop} {E : XE} {gd : MH → Bool} {tg : MG} {te : ME} {ρ : Slots} (P : Nat → D → MH → Prop) {items : List D} (o : Own h0 h L) (hl : items.length ≤ 1000000)
    (hg : ∀ h', h <+: h' → gd h' = true) (hm : ∀ i y h1 h2, SvG h.length h1 h2 → P i y h1 → P i y h2)
    (hs : ∀ i d h', items[i]? = some d → h <+: h' → h.length < h'.length → ∃ ρ1, tg d ρ = some ρ1 ∧ Sat (te ρ1 h') (fun y h2 => h' <+: h2 ∧ P i y h2) noX)
    (hn : ∀ ys h', ys.length = items.length → (∀ (k : Nat) y, ys[k]? = some y → P k y h') → Own h0 h' ((h.length, ys) :: L) → Q (.ref h.length) h') : Sat (lcGo gd tg mYes te h.length ρ items (h ++ [.lst []])) Q E := by
  refine w_comp (fun k acc h' => acc.length = k ∧ Own h h' [(h.length, acc)] ∧ ∀ (i : Nat) y, acc[i]? = some y → P i y h') (k := 0) ⟨rfl, (Own.nil h).alloc [], fun i y e => by simp at e⟩ (by simp) (by simpa using hl) (fun i acc h' hi => hg _ hi.2.1.pre) ?_ ?_
  · rintro i d acc h' hd ⟨ha, ow, hp⟩ hc
    rw [Nat.zero_add] at ha ⊢
    obtain ⟨ρ1, e1, s⟩ := hs i d h' hd ow.pre (List.getElem?_eq_some_iff.mp hc).1
    refine ⟨ρ1, e1, true, _, rfl, (fun z => Bool.noConfusion z), fun _ => s.mono ?_⟩
    rintro y h2 ⟨p2, hy⟩
    have o2 := ow.ext p2
    have hc2 := o2.at 0 rfl
    have sv0 : SvG h.length h' h2 := ⟨⟨acc, hc⟩, fun j o _ e => pre_get p2 e⟩
    have sv : SvG h.length h2 (h2.set h.length (.lst (acc ++ [y]))) := ⟨⟨acc, hc2⟩, fun j o hj e => by rw [List.getElem?_set_ne (Ne.symm hj)]; exact e⟩
    refine ⟨hc2, by simp [ha], o2.setAt 0 rfl _, fun j z hz => ?_⟩
    rcases Nat.lt_or_ge j acc.length with q | q
    · rw [List.getElem?_append_left q] at hz
      exact hm _ _ _ _ sv (hm _ _ _ _ sv0 (hp j z hz))
    · rw [List.getElem?_append_right q] at hz
      have : j - acc.length = 0 := by
        have := (List.getElem?_eq_some_iff.mp hz).1
        simp at this; omega
      rw [this] at hz
      simp at hz
      subst hz
      have : j = i := by omega
      subst this
      exact hm _ _ _ _ sv hy
  · rintro acc h' ⟨ha, ow, hp⟩ hc
    rw [Nat.zero_add] at ha
    exact hn acc h' ha hp (o.trans ow)
theorem maps_of {f : Nat → D} {ys : List D} {n : Nat} (hl : ys.length = n) (h : ∀ (k : Nat) y, ys[k]? = some y → y = f k) : ys = (List.range n).map f := by
  subst hl
  refine List.ext_getElem (by simp) fun k h1 h2 => ?_
  rw [List.getElem_map, List.getElem_range]
  exact h k _ (List.getElem?_eq_getElem h1)
theorem pushAll_short {S : List D} : ∀ {xs : List D}, pushAll xs S = none → 64 < S.length + xs.length ∨ 64 < S.length
  | [], h => by cases h
  | x :: xs, h => by
    have h : (pushS S x).bind (pushAll xs) = none := h
    cases e : pushS S x with
    | none =>
      unfold pushS at e
      split at e
      · cases e
      · split at e
        · simp; omega
        · cases e
    | some S' =>
      rw [e, Option.bind_some] at h
      have := (pushS_some e).2.2.2.2.1
      have := pushAll_short h
      simp; omega
section
variable {K : GKey} {C : Str} {fr : List (Str × D)} {ig jn js : Nat} {f : D → D → D} {stp : List D → MH → R D} {Inv : (Nat → Prop) → List D → MH → Prop} {Y0 : Nat → Prop} {h : MH} {starts : List D} {jst : Nat}
def tabsOf (f : D → D → D) (starts F : List D) : D := .tup [.tup (starts.map (ixD F)), .tup (rowsD f F)]
theorem k_gtables (ok : StpOk K C fr ig jn js f stp Inv) (hs : getL h jst = some starts) (hso : ∀ s ∈ starts, K.ok s) (hsl : starts.length ≤ 64) (g : GC K C fr ig jn js [] h) (i0 : Inv Y0 [] h) (y1 : Y0 ig) (y2 : Y0 jn) (y3 : Y0 js) (y4 : Y0 jst) (n1 : jst ≠ jn) (n2 : jst ≠ js) :
    Sat (gTables C (gNumber C) stp [.ref ig, .ref jst] h)
      (fun y h' => ∃ S0 F, pushAll starts [] = some S0 ∧ runS f 65 S0 0 = some F ∧ y = tabsOf f starts F ∧ GSt K C fr ig jn js Inv Y0 h F h')
      (fun x fs h' => x = Str.ofString "TooMany" ∧ fs = [] ∧ (∃ S0, pushAll starts [] = some S0 ∧ runS f 65 S0 0 = none) ∧ ∃ S, GSt K C fr ig jn js Inv Y0 h S h') := by
  have l1 := ok.l1
  have l2 := ok.l2
  have hk : h[ig]? = some (.ins C ((Str.ofString "numbers", .ref jn) :: (Str.ofString "states", .ref js) :: fr)) := g.ins
  have ltg := (List.getElem?_eq_some_iff.mp g.ins).1
  have ltn := (List.getElem?_eq_some_iff.mp g.num).1
  have lts := (List.getElem?_eq_some_iff.mp g.sts).1
  have g00 : GSt K C fr ig jn js Inv Y0 h [] h := ⟨g, i0, Nat.le_refl _, fun _ _ _ _ _ _ e => e⟩
  unfold gTables
  walk_at "fn"
  have p0 : h <+: h ++ [MO.lst []] := List.prefix_append _ _
  have lt0 : jst < h.length := by
    have z : ∃ o, h[jst]? = some o := by
      cases q : h[jst]? with
      | none => simp [getL, q] at hs
      | some o => exact ⟨o, rfl⟩
    obtain ⟨o, z⟩ := z
    exact (List.getElem?_eq_some_iff.mp z).1
  refine w_comp (fun k acc h' => ∃ S, pushAll (starts.take k) [] = some S ∧ acc = (starts.take k).map (ixD S) ∧ GSt K C fr ig jn js Inv (fun i => Y0 i ∨ i = h.length) h S h') (k := 0) ⟨[], rfl, rfl, (g00.more ok (Nat.le_refl _)).app ok p0⟩ (by simp) (by simpa using (by omega : starts.length ≤ 1000000)) ?_ ?_ ?_
  · rintro i acc h' ⟨S, _, _, g1⟩
    refine decide_eq_true ?_
    unfold getL at hs ⊢
    cases q : h[jst]? with
    | none => rw [q] at hs; simp at hs
    | some o =>
      rw [q] at hs
      rw [g1.kept jst o lt0 (.inl y4) n1 n2 q]
      exact hs
  · rintro i d acc h' hd ⟨S, e1, rfl, g1⟩ hc
    rw [Nat.zero_add] at e1 hc ⊢
    have hi := (List.getElem?_eq_some_iff.mp hd).1
    have hk1 : h'[ig]? = some (.ins C ((Str.ofString "numbers", .ref jn) :: (Str.ofString "states", .ref js) :: fr)) := g1.gc.ins
    have ets : starts.take (i + 1) = starts.take i ++ [d] := by rw [List.take_add_one, hd]; rfl
    have dm := List.mem_of_getElem? hd
    refine ⟨_, rfl, true, _, rfl, (fun z => Bool.noConfusion z), fun _ => ?_⟩
    dsimp only [wipeD, List.set]
    walk_at "go"
    refine (g1.num ok (.inl y2) (.inl y3) (hso d dm)).monoE ?_ ?_
    · rintro y h2 ⟨S', e2, rfl, g2, e3, e4⟩
      have a := (pushS_some e2)
      have hps : pushAll (starts.take (i + 1)) [] = some S' := by
        rw [ets, pushAll_app, e1, Option.bind_some]
        show (pushS S d).bind _ = _
        rw [e2]; rfl
      refine ⟨by rw [e4 _ (by omega) (by omega)]; exact hc, S', hps, ?_, g2.set ok (.inr rfl) (Nat.le_refl _) (by omega) (by omega) (by omega)⟩
      rw [ets, List.map_append]
      congr 1
      refine List.map_congr_left fun s hss => ?_
      exact (ixD_pre a.1 ((pushAll_some e1).2.1 s hss)).symm
    · rintro e fs h2 ⟨_, _, e2, _⟩
      have : pushAll (starts.take (i + 1)) [] = none := by
        rw [ets, pushAll_app, e1, Option.bind_some]
        show (pushS S d).bind _ = _
        rw [e2]; rfl
      have := pushAll_short this
      simp at this
      omega
  rintro acc h1 ⟨S0, e1, rfl, g1⟩ hc
  rw [Nat.zero_add, List.take_length] at *
  have gc1 := getL_of hc
  walk_at "go"
  refine w_dict0 ?_
  have p2 : h1 <+: h1 ++ [MO.dK []] := List.prefix_append _ _
  have d2 : getN (h1 ++ [MO.dK []]) (.ref h1.length) = some [] := by simp [getN]
  have len1 := g1.len
  have g2 := (g1.more ok (Nat.le_refl _)).app ok p2
  have hps0 := pushAll_some e1
  have le0 : S0.length ≤ 64 := hps0.2.2.2.1 (by simp)
  generalize h1 ++ [MO.dK []] = h2 at *
  generalize h1.length = jd at *
  generalize hY : (fun i => (Y0 i ∨ i = h.length) ∨ i = jd) = Y at *
  have yg : Y ig := by rw [← hY]; exact .inl (.inl y1)
  have yn : Y jn := by rw [← hY]; exact .inl (.inl y2)
  have ys : Y js := by rw [← hY]; exact .inl (.inl y3)
  have yd : Y jd := by rw [← hY]; exact .inr rfl
  have gfin : ∀ {S h'}, GSt K C fr ig jn js Inv Y h S h' → GSt K C fr ig jn js Inv Y0 h S h' := fun x => ⟨x.gc, ok.hA Y Y0 _ _ x.inv (by rw [← hY]; exact fun j hj => .inl (.inl hj)), x.len, fun j o l a1 a2 a3 e => x.kept j o l (by rw [← hY]; exact .inl (.inl a1)) a2 a3 e⟩
  have ltd : h.length ≤ jd := by omega
  walk_at "go"
  refine w_while (fun m ρ h' => ∃ (p : Nat) (S : List D) (l : List (NestedKey × D)) (o7 : Option D), m + p = 65 ∧ p ≤ S.length ∧ runS f (65 - p) S p = runS f 65 S0 0 ∧ S0 <+: S ∧ GSt K C fr ig jn js Inv Y h S h' ∧ getN h' (.ref jd) = some l ∧ l.length ≤ 200 * p ∧ StepD f l S p 0 ∧ ρ = [some (.ref ig), some (.ref jst), some (.tup (starts.map (ixD S0))), some (.ref jd), some (.int (p : Int)), none, none, o7, none]) 65 (by decide) ⟨0, S0, [], none, rfl, Nat.zero_le _, rfl, List.prefix_rfl, g2, d2, Nat.le_refl _, fun a b z => by omega, rfl⟩ ?_
  rintro m ρ h3 ⟨p, S, l, o7, em, hp, hrun, hpre, g3, d3, hl, sd, rfl⟩
  have hk3 : h3[ig]? = some (.ins C ((Str.ofString "numbers", .ref jn) :: (Str.ofString "states", .ref js) :: fr)) := g3.gc.ins
  have gs3 := getL_of g3.gc.sts
  have hle3 := g3.gc.le
  have lt3d : jd < h3.length := getN_lt d3
  walk_at "go"
  refine br_d (fun q => ?_) (fun q => ?_)
  · have lt : p < S.length := by omega
    have hrun2 : (pushAll (rowEv f S p (p + 1)) S).bind (fun S' => runS f (65 - (p + 1)) S' (p + 1)) = runS f 65 S0 0 := by
      rw [← hrun, show 65 - p = (65 - (p + 1)) + 1 by omega, runS, if_pos lt]
    have fail : ∀ k, k ≤ p + 1 → pushAll (rowEv f S p k) S = none → runS f 65 S0 0 = none := fun k hk e => by
      rw [← hrun2, rowEv_none e hk]; rfl
    walk_at "go"
    refine w_loop0 (fun k ρ h' => ∃ (Sq : List D) (l' : List (NestedKey × D)) (o7 : Option D), pushAll (rowEv f S p k) S = some Sq ∧ GSt K C fr ig jn js Inv Y h Sq h' ∧ getN h' (.ref jd) = some l' ∧ l'.length ≤ 200 * p + 2 * k ∧ StepD f l' Sq p k ∧ ρ = [some (.ref ig), some (.ref jst), some (.tup (starts.map (ixD S0))), some (.ref jd), some (.int (p : Int)), none, none, o7, none]) ⟨S, l, o7, rfl, g3, d3, by omega, sd, rfl⟩ (fun _ _ _ _ => rfl) ?_ ?_
    rotate_left
    · rintro ρ h4 ⟨Sq, l', o7', e4, g4, d4, hl4, sd4, rfl⟩
      have elen : (rangeD 0 (((p : Int) + 1).toNat)).length = p + 1 := by rw [rangeD_length]; omega
      rw [elen] at e4 hl4 sd4
      have a4 := pushAll_some e4
      have := a4.1.length_le
      rw [e4, Option.bind_some] at hrun2
      walk_at "go"
      refine ⟨m - 1, by omega, p + 1, Sq, l', o7', by omega, by omega, ?_, hpre.trans a4.1, g4, d4, by omega, sd4.row, by rw [Int.natCast_add]; rfl⟩
      exact hrun2
    · rintro k dd ρ h4 hdd ⟨Sq, l', o7', e4, g4, d4, hl4, sd4, rfl⟩
      obtain ⟨hk', rfl⟩ := rangeD_get hdd
      have hkp : k < p + 1 := by omega
      have a4 := pushAll_some e4
      have lq := a4.1.length_le
      have es : pushAll (rowEv f S p (k + 1)) S = pushAll (ev2 f S p k) Sq := by rw [rowEv_succ, pushAll_app, e4, Option.bind_some]
      have ep : atS Sq p = atS S p := atS_pre a4.1 lt
      have ek : atS Sq k = atS S k := atS_pre a4.1 (by omega)
      have mp : atS S p ∈ Sq := by rw [← ep]; exact atS_mem (by omega)
      have mk : atS S k ∈ Sq := by rw [← ek]; exact atS_mem (by omega)
      have hk4 : h4[ig]? = some (.ins C ((Str.ofString "numbers", .ref jn) :: (Str.ofString "states", .ref js) :: fr)) := g4.gc.ins
      have gs4 := getL_of g4.gc.sts
      have ap : atI Sq (p : Int) = some (atS S p) := by rw [← ep]; exact atI_at (atS_get (by omega))
      have ak : atI Sq (k : Int) = some (atS S k) := by rw [← ek]; exact atI_at (atS_get (by omega))
      rw [show (0 : Int) + (k : Int) = (k : Int) by omega]
      refine ⟨_, rfl, ?_⟩
      dsimp only [List.set]
      walk_at "go"
      refine (g4.step ok yg yn ys mp mk).monoE ?_ fun _ _ _ z => z.elim
      rintro z h5 ⟨rfl, zok, g5, l5, k5⟩
      have d5 := getN_same d4 (fun o => k5 jd o yd)
      walk_at "go"
      refine (g5.num ok yn ys zok).monoE ?_ ?_
      rotate_left
      · rintro x fs h6 ⟨h61, h62, h63, h64⟩
        refine ⟨h61, h62, ⟨S0, e1, fail (k + 1) (by omega) ?_⟩, _, gfin h64⟩
        rw [es]
        show (pushS Sq _).bind _ = none
        rw [h63]; rfl
      rintro y h6 ⟨S1, e6, rfl, g6, l6, k6⟩
      have b6 := pushS_some e6
      have d6 := getN_keep d5 (k6 jd (by omega) (by omega))
      walk_at "go"
      refine w_nSet rfl (nkT_pq p k) d6 (by omega) ?_
      have d7 := getN_set (l := putN l' (kPQ p k) (ixD S1 (f (atS S p) (atS S k)))) (getN_lt d6)
      have g7 := g6.set ok (o := .dN (putN l' (kPQ p k) (ixD S1 (f (atS S p) (atS S k))))) yd ltd (by omega) (by omega) (by omega)
      have hl7 := putN_len l' (kPQ p k) (ixD S1 (f (atS S p) (atS S k)))
      generalize h6.set jd (.dN (putN l' (kPQ p k) (ixD S1 (f (atS S p) (atS S k))))) = h7 at *
      have hk7 : h7[ig]? = some (.ins C ((Str.ofString "numbers", .ref jn) :: (Str.ofString "states", .ref js) :: fr)) := g7.gc.ins
      have gs7 := getL_of g7.gc.sts
      have lq6 := b6.1.length_le
      have ap7 : atI S1 (p : Int) = some (atS S p) := by rw [← ep, ← atS_pre b6.1 (show p < Sq.length by omega)]; exact atI_at (atS_get (by omega))
      have ak7 : atI S1 (k : Int) = some (atS S k) := by rw [← ek, ← atS_pre b6.1 (show k < Sq.length by omega)]; exact atI_at (atS_get (by omega))
      walk_at "go"
      refine (g7.step ok yg yn ys (b6.1.subset mk) (b6.1.subset mp)).monoE ?_ fun _ _ _ z => z.elim
      rintro z h8 ⟨rfl, zok8, g8, l8, k8⟩
      have d8 := getN_same d7 (fun o => k8 jd o yd)
      walk_at "go"
      refine (g8.num ok yn ys zok8).monoE ?_ ?_
      rotate_left
      · rintro x fs h9 ⟨h61, h62, h63, h64⟩
        refine ⟨h61, h62, ⟨S0, e1, fail (k + 1) (by omega) ?_⟩, _, gfin h64⟩
        rw [es]
        show (pushS Sq _).bind _ = none
        rw [e6, Option.bind_some]
        show (pushS S1 _).bind _ = none
        rw [h63]; rfl
      rintro y h9 ⟨S2, e9, rfl, g9, l9, k9⟩
      have b9 := pushS_some e9
      have d9 := getN_keep d8 (k9 jd (by omega) (by omega))
      walk_at "go"
      refine w_nSet rfl (nkT_pq k p) d9 (by omega) ?_
      have hlA := putN_len (putN l' (kPQ p k) (ixD S1 (f (atS S p) (atS S k)))) (kPQ k p) (ixD S2 (f (atS S k) (atS S p)))
      refine ⟨S2, _, _, ?_, g9.set ok yd ltd (by omega) (by omega) (by omega), getN_set (getN_lt d9), by omega, ?_, rfl⟩
      · rw [es]
        show (pushS Sq _).bind _ = some S2
        rw [e6, Option.bind_some]
        show (pushS S1 _).bind _ = some S2
        rw [e9]; rfl
      · have pr := b6.1.trans b9.1
        have ep2 : atS S2 p = atS S p := by rw [atS_pre pr (by omega), ep]
        have ek2 : atS S2 k = atS S k := by rw [atS_pre pr (by omega), ek]
        intro a b hab
        rw [valG_put, valG_put]
        by_cases z1 : kPQ k p = kPQ a b
        · rw [if_pos z1]
          obtain ⟨rfl, rfl⟩ := (kPQ_iff _ _ _ _).mp z1
          rw [ep2, ek2]
          exact ⟨b9.2.1, rfl⟩
        · rw [if_neg z1]
          by_cases z2 : kPQ p k = kPQ a b
          · rw [if_pos z2]
            obtain ⟨rfl, rfl⟩ := (kPQ_iff _ _ _ _).mp z2
            rw [ep2, ek2]
            exact ⟨b9.1.subset b6.2.1, by rw [ixD_pre b9.1 b6.2.1]⟩
          · rw [if_neg z2]
            rw [kPQ_iff] at z1 z2
            exact (sd4.grow pr (by omega) (.inr ⟨by omega, by omega⟩)) a b (by omega)
  · have hpe : p = S.length := by omega
    have hF : runS f 65 S0 0 = some S := by
      rw [← hrun, show 65 - p = (64 - p) + 1 by omega, runS, if_neg (by omega)]
    walk_at "go"
    refine o_compG (fun k y _ => y = rowD2 f S k) (Own.nil h3) (by rw [rangeD_length]; omega) (fun _ _ => rfl) (fun _ _ _ _ _ z => z) ?_ ?_
    · rintro a dd h4 hdd p4 _
      obtain ⟨ha, rfl⟩ := rangeD_get hdd
      rw [show (0 : Int) + (a : Int) = (a : Int) by omega]
      refine ⟨_, rfl, ?_⟩
      dsimp only [wipeD, List.set]
      walk_at "go"
      refine o_compG (fun k y _ => y = ixD S (f (atS S a) (atS S k))) (Own.nil h4) (by rw [rangeD_length]; omega) (fun _ _ => rfl) (fun _ _ _ _ _ z => z) ?_ ?_
      · rintro b dd h5 hdd p5 _
        obtain ⟨hb, rfl⟩ := rangeD_get hdd
        rw [show (0 : Int) + (b : Int) = (b : Int) by omega]
        refine ⟨_, rfl, ?_⟩
        dsimp only [wipeD, List.set]
        walk_at "go"
        refine w_nIx rfl (nkT_pq a b) (getN_same d3 fun o e => pre_get (p4.trans p5) e) (sd a b (by omega)).2 ?_
        exact ⟨List.prefix_rfl, rfl⟩
      · rintro ys h5 hy hv ow
        have e5 : ys = (List.range S.length).map fun k => ixD S (f (atS S a) (atS S k)) := maps_of (by rw [hy, rangeD_length]; omega) hv
        walk_at "go"
        exact ⟨ow.pre, by rw [e5]; rfl⟩
    · rintro ys h5 hy hv ow
      have e5 : ys = rowsD f S := maps_of (by rw [hy, rangeD_length]; omega) hv
      walk_at "go"
      refine ⟨S0, S, e1, hF, ?_, gfin (g3.app ok ow.pre)⟩
      unfold tabsOf
      rw [e5]
      congr 3
      refine List.map_congr_left fun s hss => ?_
      rw [ixD_pre hpre (hps0.2.1 s hss)]
end
end
section
open PySem L2
/-! == and in of plain data: None, whole numbers, texts, tuples of these. -/
mutual
def pln : Nat → D → Prop
  | _, .non => True
  | _, .int _ => True
  | _, .str x => PyData.strOk x = true
  | n, .tup l => 1 ≤ n ∧ plns (n - 1) l
  | _, .bl _ => False
  | _, .ref _ => False
  | _, .xo _ _ _ => False
def plns : Nat → List D → Prop
  | _, [] => True
  | n, d :: l => pln n d ∧ plns n l
end
mutual
def pyD : D → PyData
  | .non => .none
  | .int i => .int i
  | .str x => .str x
  | .tup l => .tuple (pyDs l)
  | .bl _ => .none
  | .ref _ => .none
  | .xo _ _ _ => .none
def pyDs : List D → List PyData
  | [] => []
  | d :: l => pyD d :: pyDs l
end
mutual
theorem pyOf_pln : ∀ (n m : Nat) (h : MH) (d : D), pln n d → n < m → pyOf m h d = some (pyD d)
  | n, 0, h, d, _, hm => by omega
  | n, m + 1, h, .non, _, _ => rfl
  | n, m + 1, h, .int i, _, _ => rfl
  | n, m + 1, h, .str x, _, _ => rfl
  | n, m + 1, h, .tup l, hp, hm => by
    obtain ⟨h1, h2⟩ := (hp : 1 ≤ n ∧ plns (n - 1) l)
    show (allSome (l.map (pyOf m h))).map PyData.tuple = _
    rw [pyOfs_pln (n - 1) m h l h2 (by omega)]
    rfl
  | n, m + 1, h, .bl _, hp, _ => False.elim hp
  | n, m + 1, h, .ref _, hp, _ => False.elim hp
  | n, m + 1, h, .xo _ _ _, hp, _ => False.elim hp
theorem pyOfs_pln : ∀ (n m : Nat) (h : MH) (l : List D), plns n l → n < m → allSome (l.map (pyOf m h)) = some (pyDs l)
  | n, m, h, [], _, _ => rfl
  | n, m, h, d :: l, hp, hm => by
    obtain ⟨h1, h2⟩ := hp
    rw [List.map_cons, pyOf_pln n m h d h1 hm]
    show (allSome (l.map (pyOf m h))).map (pyD d :: ·) = _
    rw [pyOfs_pln n m h l h2 hm]
    rfl
end
mutual
theorem py_lay : ∀ (n : Nat) (d : D), pln n d → (pyD d).canLay0 = true ∧ (pyD d).depth ≤ n
  | n, .non, _ => ⟨rfl, Nat.zero_le _⟩
  | n, .int i, _ => ⟨rfl, Nat.zero_le _⟩
  | n, .str x, h => ⟨h, Nat.zero_le _⟩
  | n, .tup l, hp => by
    obtain ⟨h1, h2⟩ := (hp : 1 ≤ n ∧ plns (n - 1) l)
    obtain ⟨h3, h4⟩ := pys_lay (n - 1) l h2
    rw [pyD]
    refine ⟨by simpa [PyData.canLay0] using h3, ?_⟩
    simp only [PyData.depth]
    omega
  | n, .bl _, hp => False.elim hp
  | n, .ref _, hp => False.elim hp
  | n, .xo _ _ _, hp => False.elim hp
theorem pys_lay : ∀ (n : Nat) (l : List D), plns n l → PyData.canLayAll0 (pyDs l) = true ∧ PyData.depthAll (pyDs l) ≤ n
  | n, [], _ => ⟨rfl, Nat.zero_le _⟩
  | n, d :: l, hp => by
    obtain ⟨h1, h2⟩ := py_lay n d hp.1
    obtain ⟨h3, h4⟩ := pys_lay n l hp.2
    rw [pyDs]
    refine ⟨by rw [PyData.canLayAll0, h1, h3]; rfl, ?_⟩
    rw [PyData.depthAll]
    omega
end
mutual
theorem py_eqv : ∀ (n m : Nat) (a b : D), pln n a → pln m b → PyData.eqv (pyD a) (pyD b) = decide (a = b)
  | n, m, a, b, ha, hb => by
    cases a with
    | non => cases b with
      | non => rfl
      | int i => rfl
      | str x => rfl
      | tup l => rfl
      | _ => exact False.elim hb
    | int i => cases b with
      | int j => simp only [pyD, PyData.eqv]; rw [Bool.eq_iff_iff]; simp
      | non => rfl
      | str x => rfl
      | tup l => rfl
      | _ => exact False.elim hb
    | str x => cases b with
      | str y => simp only [pyD, PyData.eqv]; rw [Bool.eq_iff_iff]; simp
      | non => rfl
      | int i => rfl
      | tup l => rfl
      | _ => exact False.elim hb
    | tup l => cases b with
      | tup k =>
        obtain ⟨h1, h2⟩ := (ha : 1 ≤ n ∧ plns (n - 1) l)
        obtain ⟨h3, h4⟩ := (hb : 1 ≤ m ∧ plns (m - 1) k)
        simp only [pyD, PyData.eqv]
        rw [py_eqvs (n - 1) (m - 1) l k h2 h4]
        rw [Bool.eq_iff_iff]; simp
      | non => rfl
      | int i => rfl
      | str x => rfl
      | _ => exact False.elim hb
    | bl _ => exact False.elim ha
    | ref _ => exact False.elim ha
    | xo _ _ _ => exact False.elim ha
theorem py_eqvs : ∀ (n m : Nat) (a b : List D), plns n a → plns m b → PyData.eqvAll (pyDs a) (pyDs b) = decide (a = b)
  | n, m, [], [], _, _ => rfl
  | n, m, [], _ :: _, _, _ => rfl
  | n, m, _ :: _, [], _, _ => rfl
  | n, m, x :: a, y :: b, ha, hb => by
    rw [pyDs, pyDs, PyData.eqvAll, py_eqv n m x y ha.1 hb.1, py_eqvs n m a b ha.2 hb.2, Bool.eq_iff_iff]
    simp
end
end
section
open PySem L2

local macro_rules | `(tactic| walk_at "lk") => `(tactic| first | with_reducible exact lkA | (apply lkB; decide +kernel; walk_at "lk"))
local macro_rules | `(tactic| walk_at "mk") => `(tactic| first | with_reducible exact mkA | (apply mkB; decide +kernel; walk_at "mk"))
local macro_rules | `(tactic| walk_at "fk") => `(tactic| first | with_reducible exact fkA | exact fkN | (apply fkB; decide +kernel; walk_at "fk"))
local macro_rules | `(tactic| walk_at "cs") => `(tactic| first | exact List.mem_cons_self | (apply List.mem_cons_of_mem; walk_at "cs"))
local macro_rules | `(tactic| walk_at "w") => `(tactic| first
  | with_reducible refine w_fld ?_
  | ((with_reducible refine w_fldK (c := ?_) (fs := ?_) (v := ?_) ?_ ?_ ?_ ?_); rotate_left; rotate_left; rotate_left; (with_reducible assumption); (walk_at "cs"); (walk_at "fk"))
  | with_reducible refine w_setFld ?_
  | with_reducible refine w_new ?_
  | with_reducible refine w_methI ?_
  | ((with_reducible refine w_methK (c := ?_) (fs := ?_) (F := ?_) ?_ ?_ ?_ ?_); rotate_left; rotate_left; rotate_left; (with_reducible assumption); (walk_at "mk"); (walk_at "fk"))
  | with_reducible refine w_isC ?_
  | ((with_reducible refine w_isCK (c := ?_) (fs := ?_) (k := ?_) ?_ ?_ ?_); rotate_left; rotate_left; rotate_left; (with_reducible assumption); (walk_at "lk"))
  | with_reducible refine w_callD ?_
  | with_reducible refine w_mDSet ?_
  | with_reducible refine w_eq (nN_non _) ?_
  | with_reducible refine w_eq (nN_int _ _) ?_
  | with_reducible refine w_eq (nN_tup _ _) ?_
  | with_reducible refine w_eq (nN_ref _ _) ?_
  | with_reducible refine w_eq (iN_non _) ?_
  | with_reducible refine w_eq (iN_int _ _) ?_
  | with_reducible refine w_eq (iN_tup _ _) ?_
  | with_reducible refine w_eq (iN_ref _ _) ?_)
/-! ### keys that are tuples -/
def numT (key : D → NestedKey) : Nat → List D → List (NestedKey × D)
  | _, [] => []
  | n, x :: S => (key x, .int (n : Int)) :: numT key (n + 1) S
theorem numT_app (key : D → NestedKey) (x : D) : ∀ (S : List D) (n : Nat), numT key n (S ++ [x]) = numT key n S ++ [(key x, .int ((n + S.length : Nat) : Int))]
  | [], n => by simp [numT]
  | y :: S, n => by
    rw [List.cons_append, numT, numT, numT_app key x S, List.cons_append, List.length_cons, show n + 1 + S.length = n + (S.length + 1) by omega]
theorem numT_len (key : D → NestedKey) : ∀ (S : List D) (n : Nat), (numT key n S).length = S.length
  | [], n => rfl
  | y :: S, n => by rw [numT, List.length_cons, numT_len key S, List.length_cons]
theorem numT_val {key : D → NestedKey} {x : D} : ∀ (S : List D) (n : Nat), (∀ s ∈ S, key s = key x → s = x) → valN (numT key n S) (key x) = if x ∈ S then some (.int ((n + S.idxOf x : Nat) : Int)) else none
  | [], n, _ => by simp [numT, valN]
  | y :: S, n, h => by
    rw [numT, valG_cons]
    by_cases z : key y = key x
    · rw [if_pos z]
      obtain rfl := h y List.mem_cons_self z
      rw [if_pos List.mem_cons_self]
      simp
    · have z2 : ¬ y = x := fun w => z (by rw [w])
      rw [if_neg z, numT_val S (n + 1) fun s hs => h s (List.mem_cons_of_mem _ hs)]
      by_cases w : x ∈ S
      · rw [if_pos w, if_pos (List.mem_cons_of_mem _ w), List.idxOf_cons, show (y == x) = false by simpa using z2]
        simp only [cond_false]
        rw [show n + 1 + S.idxOf x = n + (S.idxOf x + 1) by omega]
      · rw [if_neg w, if_neg (by simp [w]; exact fun q => z2 q.symm)]
def cellT (key : D → NestedKey) (S : List D) : MO := if S = [] then .dK [] else .dN (numT key 0 S)
theorem cellT_getN {key : D → NestedKey} {S : List D} {h : MH} {j : Nat} (e : h[j]? = some (cellT key S)) : getN h (.ref j) = some (numT key 0 S) := by
  unfold cellT at e
  split at e
  · rename_i z; subst z; simp [getN, e, numT]
  · simp [getN, e]
def keyT (x : D) : NestedKey := match nkT x with
  | some k => k
  | none => .none
def gkT (P : D → Prop) (hk : ∀ x, P x → keyD x = none ∧ nkT x = some (keyT x)) (inj : ∀ x y, P x → P y → keyT x = keyT y → x = y) : GKey where
  cell := cellT keyT
  ok := P
  nil := by unfold cellT; rw [if_pos rfl]
  nl := fun S l => by unfold cellT; split <;> simp
  ni := fun S c f => by unfold cellT; split <;> simp
  notIn := fun S x h j e hS hx => by
    have hv := numT_val (key := keyT) S 0 fun s hs q => inj s x (hS s hs) hx q
    simp only [dANotIn, (hk x hx).1, dNNotIn, (hk x hx).2, cellT_getN e, hv]
    by_cases z : x ∈ S <;> simp [z]
  ix := fun S x h j e hS hx z => by
    have hv := numT_val (key := keyT) S 0 fun s hs q => inj s x (hS s hs) hx q
    simp only [dAIx, (hk x hx).1, dNIx, (hk x hx).2, cellT_getN e, hv, if_pos z, Nat.zero_add]
  set := fun S x h j e hS hx z l => by
    have hv := numT_val (key := keyT) S 0 fun s hs q => inj s x (hS s hs) hx q
    rw [if_neg z] at hv
    have ec : cellT keyT (S ++ [x]) = .dN (putN (numT keyT 0 S) (keyT x) (.int (S.length : Int))) := by
      unfold cellT putN
      rw [if_neg (by simp), hv, numT_app, Nat.zero_add]
      simp
    rw [ec]
    simp only [dASet, (hk x hx).1, dNSet, (hk x hx).2, cellT_getN e, numT_len, if_pos l]
def PairI (x : D) : Prop := ∃ a b : Int, x = .tup [.int a, .int b]
theorem keyT_pair (a b : Int) : nkT (.tup [.int a, .int b]) = some (nkG [a, b]) := nkT_intG [a, b]
theorem pairI_k : ∀ x, PairI x → keyD x = none ∧ nkT x = some (keyT x) := by
  rintro x ⟨a, b, rfl⟩
  refine ⟨rfl, ?_⟩
  unfold keyT
  rw [keyT_pair]
theorem pairI_inj : ∀ x y, PairI x → PairI y → keyT x = keyT y → x = y := by
  rintro x y ⟨a, b, rfl⟩ ⟨c, d, rfl⟩ h
  unfold keyT at h
  rw [keyT_pair, keyT_pair] at h
  have := nkG_inj h
  simp at this
  rw [this.1, this.2]
def gkP : GKey := gkT PairI pairI_k pairI_inj
/-! ### no more than 64 -/
theorem le_sub {α : Type} [DecidableEq α] : ∀ {S U : List α}, S.Nodup → (∀ s ∈ S, s ∈ U) → S.length ≤ U.length
  | [], U, _, _ => by simp
  | x :: S, U, nd, h => by
    have hx := h x List.mem_cons_self
    obtain ⟨n1, n2⟩ := List.nodup_cons.mp nd
    have := le_sub (S := S) (U := U.erase x) n2 fun s hs => (List.mem_erase_of_ne fun (z : s = x) => n1 (by rw [← z]; exact hs)).mpr (h s (List.mem_cons_of_mem _ hs))
    rw [List.length_erase_of_mem hx] at this
    have := List.length_pos_of_mem hx
    simp; omega
theorem neG (s t : String) (h : (Str.ofString s == Str.ofString t) = false := by decide +kernel) : ¬ Str.ofString s = Str.ofString t := fun z => by rw [z] at h; simp at h
/-! ### two machines at once -/
def pairF (T1 T2 : List D) (x y : D) : D := match x, y with
  | .tup [.int a, .int b], .tup [.int c, .int d] => .tup [.int (tAt T1 a c), .int (tAt T2 b d)]
  | _, _ => .tup [.int 0, .int 0]
def InP (m1 m2 : Int) (x : D) : Prop := ∃ a b : Int, x = .tup [.int a, .int b] ∧ (0 ≤ a ∧ a < m1) ∧ 0 ≤ b ∧ b < m2
theorem InP.pair {m1 m2 : Int} {x : D} (h : InP m1 m2 x) : PairI x := by
  obtain ⟨a, b, rfl, _⟩ := h
  exact ⟨a, b, rfl⟩
theorem pre_of {h h' : MH} (hl : h.length ≤ h'.length) (k : ∀ (j : Nat) (o : MO), h[j]? = some o → h'[j]? = some o) : h <+: h' := by
  refine ⟨h'.drop h.length, ?_⟩
  refine List.ext_getElem? fun i => ?_
  rcases Nat.lt_or_ge i h.length with q | q
  · rw [List.getElem?_append_left q]
    have := k i _ (List.getElem?_eq_getElem q)
    rw [this, List.getElem?_eq_getElem q]
  · rw [List.getElem?_append_right q, List.getElem?_drop]
    congr 1
    omega
theorem putG2 {x v : D} : putFD (Str.ofString "states") v [(Str.ofString "numbers", x)] = [(Str.ofString "numbers", x), (Str.ofString "states", v)] := by
  rw [putFD, if_neg (neG "numbers" "states")]; rfl
theorem putG_new {f : Str} {v x y : D} {l : List (Str × D)} (h1 : (Str.ofString "numbers" == f) = false := by decide +kernel) (h2 : (Str.ofString "states" == f) = false := by decide +kernel) : putFD f v ((Str.ofString "numbers", x) :: (Str.ofString "states", y) :: l) = (Str.ofString "numbers", x) :: (Str.ofString "states", y) :: putFD f v l := by
  rw [putFD, if_neg (fun z => by rw [z] at h1; simp at h1), putFD, if_neg (fun z => by rw [z] at h2; simp at h2)]
theorem dups_le {l : List Str} : l.eraseDups.length ≤ l.length := le_sub (eraseDups_nodup _ l (Nat.le_refl _)) fun s hs => List.mem_eraseDups.mp hs
/-! ### a grower made -/
def gInit (C : Str) : List D → MH → R D := mFun 1 1
 (mSeq (mSetFld [C] (Str.ofString "numbers") (mVar 0) (mDict0))
 (mSetFld [C] (Str.ofString "states") (mVar 0) (mLst (mNil))))
theorem k_ginit {C : Str} {ig : Nat} {h : MH} (e : h[ig]? = some (.ins C [])) : Sat (gInit C [.ref ig] h) (fun y h' => y = .non ∧ ∃ jn js, h.length ≤ jn ∧ h.length ≤ js ∧ h'[ig]? = some (.ins C (growF jn js [])) ∧ h'[jn]? = some (.dK []) ∧ h'[js]? = some (.lst []) ∧ h.length ≤ h'.length ∧ ∀ j o, j ≠ ig → h[j]? = some o → h'[j]? = some o) noX := by
  have lt := (List.getElem?_eq_some_iff.mp e).1
  unfold gInit
  walk_at "fn"
  refine w_dict0 ?_
  have p1 : h <+: h ++ [MO.dK []] := List.prefix_append _ _
  have e1 := pre_get p1 e
  have d1 : (h ++ [MO.dK []])[h.length]? = some (.dK []) := by simp
  have len1 : (h ++ [MO.dK []]).length = h.length + 1 := by simp
  generalize h ++ [MO.dK []] = h1 at *
  walk_at "go"
  refine w_setFldK e1 (by simp) (by simp) ?_
  rw [show putFD (Str.ofString "numbers") (.ref h.length) [] = [(Str.ofString "numbers", .ref h.length)] from rfl]
  have e2 : (h1.set ig (.ins C [(Str.ofString "numbers", .ref h.length)]))[ig]? = some (.ins C [(Str.ofString "numbers", .ref h.length)]) := List.getElem?_set_self (by omega)
  have k2 : ∀ j o, j ≠ ig → h1[j]? = some o → (h1.set ig (.ins C [(Str.ofString "numbers", .ref h.length)]))[j]? = some o := fun j o n x => by rw [List.getElem?_set_ne (Ne.symm n)]; exact x
  have len2 : (h1.set ig (.ins C [(Str.ofString "numbers", .ref h.length)])).length = h1.length := by simp
  generalize h1.set ig (.ins C [(Str.ofString "numbers", .ref h.length)]) = h2 at *
  walk_at "go"
  refine o_new (Own.nil h2) (by simp) fun js h3 o3 => ?_
  have e3 := pre_get o3.pre e2
  have c3 := o3.at 0 rfl
  have hj := (o3.cell _ List.mem_cons_self).1
  have hj : h2.length ≤ js := hj
  have d3 := pre_get o3.pre (k2 _ _ (by omega) d1)
  have len3 := o3.pre.length_le
  have lt3 := (List.getElem?_eq_some_iff.mp e3).1
  walk_at "go"
  refine w_setFldK e3 (by simp) (by simp) ?_
  rw [putG2]
  refine ⟨by trivial, h.length, js, Nat.le_refl _, by omega, List.getElem?_set_self lt3, ?_, ?_, by simp; omega, fun j o n x => ?_⟩
  · rw [List.getElem?_set_ne (by omega)]; exact d3
  · rw [List.getElem?_set_ne (by omega)]; exact c3
  · rw [List.getElem?_set_ne (Ne.symm n)]
    exact pre_get o3.pre (k2 j o n (pre_get p1 x))
end
section
open PySem L2

local macro_rules | `(tactic| walk_at "lk") => `(tactic| first | with_reducible exact lkA | (apply lkB; decide +kernel; walk_at "lk"))
local macro_rules | `(tactic| walk_at "mk") => `(tactic| first | with_reducible exact mkA | (apply mkB; decide +kernel; walk_at "mk"))
local macro_rules | `(tactic| walk_at "fk") => `(tactic| first | with_reducible exact fkA | exact fkN | (apply fkB; decide +kernel; walk_at "fk"))
local macro_rules | `(tactic| walk_at "cs") => `(tactic| first | exact List.mem_cons_self | (apply List.mem_cons_of_mem; walk_at "cs"))
local macro_rules | `(tactic| walk_at "w") => `(tactic| first
  | with_reducible refine w_fld ?_
  | ((with_reducible refine w_fldK (c := ?_) (fs := ?_) (v := ?_) ?_ ?_ ?_ ?_); rotate_left; rotate_left; rotate_left; (with_reducible assumption); (walk_at "cs"); (walk_at "fk"))
  | with_reducible refine w_setFld ?_
  | with_reducible refine w_new ?_
  | with_reducible refine w_methI ?_
  | ((with_reducible refine w_methK (c := ?_) (fs := ?_) (F := ?_) ?_ ?_ ?_ ?_); rotate_left; rotate_left; rotate_left; (with_reducible assumption); (walk_at "mk"); (walk_at "fk"))
  | with_reducible refine w_isC ?_
  | ((with_reducible refine w_isCK (c := ?_) (fs := ?_) (k := ?_) ?_ ?_ ?_); rotate_left; rotate_left; rotate_left; (with_reducible assumption); (walk_at "lk"))
  | with_reducible refine w_callD ?_
  | with_reducible refine w_mDSet ?_
  | with_reducible refine w_eq (nN_non _) ?_
  | with_reducible refine w_eq (nN_int _ _) ?_
  | with_reducible refine w_eq (nN_tup _ _) ?_
  | with_reducible refine w_eq (nN_ref _ _) ?_
  | with_reducible refine w_eq (iN_non _) ?_
  | with_reducible refine w_eq (iN_int _ _) ?_
  | with_reducible refine w_eq (iN_tup _ _) ?_
  | with_reducible refine w_eq (iN_ref _ _) ?_)
/-! ### pairs of two machines' states -/
theorem tab_g : m_PairGrower_tables_dba21 = gTables (Str.ofString "PairGrower") (gNumber (Str.ofString "PairGrower")) m_PairGrower_step_cba85 := rfl
def gkQ (m1 m2 : Int) : GKey := gkT (InP m1 m2) (fun x hx => pairI_k x hx.pair) fun x y hx hy => pairI_inj x y hx.pair hy.pair
theorem o_listTG {h0 h : MH} {L : LL} {l : List D} {Q : D → MH → Prop} {E : XE} (o : Own h0 h L) (q : ∀ i h', Own h0 h' ((i, l) :: L) → Q (.ref i) h') : Sat (dList [.tup l] h) Q E := w_eq (by simp [dList, seqOf]) (q _ _ (o.alloc l))
def nmsP (n1 n2 : List Str) : List Str := sortS (n1 ++ n2).eraseDups
theorem k_allnames {n1 n2 : List Str} (h1 : n1.length ≤ 100) (h2 : n2.length ≤ 100) {h : MH} : Sat (m_all_names_5befd [.tup (n1.map .str), .tup (n2.map .str)] h) (fun y h' => ∃ j, y = .ref j ∧ Own h h' [(j, (nmsP n1 n2).map .str)]) noX := by
  walk_at "fn"
  refine o_listTG (Own.nil h) fun i1 h1' o1 => ?_
  walk_at "go"
  refine o_listTG o1 fun i2 h2' o2 => ?_
  walk_at "go"
  refine o_add o2 (o2.at 1 rfl) (o2.at 0 rfl) (by simp; omega) fun i3 h3 o3 => ?_
  walk_at "go"
  refine o_sortSet o3 (ys := n1 ++ n2) (by rw [List.map_append]; exact o3.atL 0 rfl) (by simp; omega) fun i4 h4 o4 => ?_
  exact ⟨i4, rfl, o4.head⟩
section
variable {F1 K1 F2 K2 : D} {n1 n2 : List Str} {s1 s2 : List Int} {T1 T2 : List D} {m1 m2 : Int}
theorem lastI_in {sv : List Int} {n : Nat} {m : Int} (hl : sv.length = n + 1) (hs : ∀ z ∈ sv, 0 ≤ z ∧ z < m) : 0 ≤ sv.getLastD 0 ∧ sv.getLastD 0 < m := by
  refine hs _ ?_
  cases sv with
  | nil => simp at hl
  | cons a l =>
    rw [List.getLastD_eq_getLast?]
    cases e : (a :: l).getLast? with
    | none => simp at e
    | some z => exact List.mem_of_getLast? e
def frP (a b : D) : List (Str × D) := [(Str.ofString "one", a), (Str.ofString "other", b)]
def stP (n1 n2 : List Str) (s1 s2 : List Int) (x : Str) : D := .tup [.int (startI n1 s1 x), .int (startI n2 s2 x)]
def lsP (s1 s2 : List Int) : D := .tup [.int (s1.getLastD 0), .int (s2.getLastD 0)]
def startsP (n1 n2 : List Str) (s1 s2 : List Int) : List D := (nmsP n1 n2).map (stP n1 n2 s1 s2) ++ [lsP s1 s2]
theorem lk_frP {f : Str} {a b : D} (h1 : (f == Str.ofString "one") = false) (h2 : (f == Str.ofString "other") = false) : (frP a b).lookup f = none := by
  unfold frP
  rw [List.lookup_cons, h1, List.lookup_cons, h2]; rfl
theorem stpP (M1 : Mc n1 s1 T1 m1) (M2 : Mc n2 s2 T2 m2) {ig jn js : Nat} : StpOk (gkQ m1 m2) (Str.ofString "PairGrower") (frP (tabD F1 n1 s1 T1 K1) (tabD F2 n2 s2 T2 K2)) ig jn js (pairF T1 T2) m_PairGrower_step_cba85 (fun _ _ _ => True) :=
  ⟨lk_frP (by decide +kernel) (by decide +kernel), lk_frP (by decide +kernel) (by decide +kernel), fun _ _ _ _ _ _ _ => trivial, fun _ _ _ _ _ _ => trivial, fun _ _ _ _ _ _ => trivial, fun _ _ _ _ _ _ => trivial, fun Y h x y S _ _ _ _ g hx hy => by
    obtain ⟨a, b, rfl, ha, hb⟩ := g.ok x hx
    obtain ⟨c, d, rfl, hc, hd⟩ := g.ok y hy
    have hk : h[ig]? = some (.ins (Str.ofString "PairGrower") ((Str.ofString "numbers", .ref jn) :: (Str.ofString "states", .ref js) :: [(Str.ofString "one", tabD F1 n1 s1 T1 K1), (Str.ofString "other", tabD F2 n2 s2 T2 K2)])) := g.ins
    obtain ⟨i1, l1, e1, e2⟩ := tAt_in M1.tl M1.ts ha hc
    obtain ⟨i2, l2, e3, e4⟩ := tAt_in M2.tl M2.ts hb hd
    have c0 : ∀ u v : Int, atI [D.int u, D.int v] 0 = some (.int u) := fun u v => rfl
    have c1 : ∀ u v : Int, atI [D.int u, D.int v] 1 = some (.int v) := fun u v => rfl
    walk_at "fn"
    exact ⟨rfl, ⟨_, _, rfl, i1, i2⟩, trivial, Nat.le_refl _, fun _ _ _ e => e⟩⟩
theorem starts_ok (M1 : Mc n1 s1 T1 m1) (M2 : Mc n2 s2 T2 m2) : ∀ s ∈ startsP n1 n2 s1 s2, InP m1 m2 s := fun s hs => by
  unfold startsP at hs
  rcases List.mem_append.mp hs with q | q
  · obtain ⟨x, _, rfl⟩ := List.mem_map.mp q
    exact ⟨_, _, rfl, startI_in M1.ss M1.sl x, startI_in M2.ss M2.sl x⟩
  · simp at q
    subst q
    exact ⟨_, _, rfl, lastI_in M1.sl M1.ss, lastI_in M2.sl M2.ss⟩
/-- a run that ends -/
structure RunP (f : D → D → D) (starts F : List D) : Prop where
  run : ∃ S0, pushAll starts [] = some S0 ∧ runS f 65 S0 0 = some F
def NoRun (f : D → D → D) (starts : List D) : Prop := ∃ S0, pushAll starts [] = some S0 ∧ runS f 65 S0 0 = none
theorem init_g : m_Grower___init___c_31163 = gInit (Str.ofString "PairGrower") := rfl
theorem k_pginit {K : GKey} {a b : D} (h : MH) : Sat (m_PairGrower___init___06085 [.ref h.length, a, b] (h ++ [.ins (Str.ofString "PairGrower") []])) (fun y h' => y = .non ∧ h <+: h' ∧ ∃ jn js, GC K (Str.ofString "PairGrower") (frP a b) h.length jn js [] h' ∧ h.length < jn ∧ h.length < js) noX := by
  have c0 : (h ++ [MO.ins (Str.ofString "PairGrower") []])[h.length]? = some (.ins (Str.ofString "PairGrower") []) := by simp
  have p0 : h <+: h ++ [MO.ins (Str.ofString "PairGrower") []] := List.prefix_append _ _
  have len0 : (h ++ [MO.ins (Str.ofString "PairGrower") []]).length = h.length + 1 := by simp
  generalize h ++ [MO.ins (Str.ofString "PairGrower") []] = h1 at *
  walk_at "fn"
  rw [init_g]
  refine (k_ginit c0).mono ?_
  rintro y h2 ⟨rfl, jn, js, l1, l2, e1, e2, e3, e4, k2⟩
  have lt2 := (List.getElem?_eq_some_iff.mp e1).1
  walk_at "go"
  refine w_setFldK e1 (by simp) (by unfold growF; simp) ?_
  unfold growF
  rw [putG_new]
  have e5 : (h2.set h.length (.ins (Str.ofString "PairGrower") ((Str.ofString "numbers", .ref jn) :: (Str.ofString "states", .ref js) :: putFD (Str.ofString "one") a [])))[h.length]? = some (.ins (Str.ofString "PairGrower") ((Str.ofString "numbers", .ref jn) :: (Str.ofString "states", .ref js) :: putFD (Str.ofString "one") a [])) := List.getElem?_set_self lt2
  have k5 : ∀ j o, j ≠ h.length → h2[j]? = some o → (h2.set h.length (.ins (Str.ofString "PairGrower") ((Str.ofString "numbers", .ref jn) :: (Str.ofString "states", .ref js) :: putFD (Str.ofString "one") a [])))[j]? = some o := fun j o n x => by rw [List.getElem?_set_ne (Ne.symm n)]; exact x
  have len5 : (h2.set h.length (.ins (Str.ofString "PairGrower") ((Str.ofString "numbers", .ref jn) :: (Str.ofString "states", .ref js) :: putFD (Str.ofString "one") a []))).length = h2.length := by simp
  generalize h2.set h.length (.ins (Str.ofString "PairGrower") ((Str.ofString "numbers", .ref jn) :: (Str.ofString "states", .ref js) :: putFD (Str.ofString "one") a [])) = h3 at *
  walk_at "go"
  refine w_setFldK e5 (by simp) (by simp [putFD]) ?_
  rw [putG_new]
  have n12 : ¬ Str.ofString "one" = Str.ofString "other" := neG "one" "other"
  have ef : putFD (Str.ofString "other") b (putFD (Str.ofString "one") a []) = frP a b := by
    show putFD (Str.ofString "other") b [(Str.ofString "one", a)] = _
    rw [putFD, if_neg n12]; rfl
  rw [ef]
  have lt3 := (List.getElem?_eq_some_iff.mp e5).1
  refine ⟨by trivial, pre_of (by simp; omega) fun j o e => ?_, jn, js, ⟨List.getElem?_set_self lt3, ?_, ?_, List.nodup_nil, by simp, fun s hs => by simp at hs⟩, by omega, by omega⟩
  · have lj := (List.getElem?_eq_some_iff.mp e).1
    rw [List.getElem?_set_ne (by omega)]
    exact k5 j o (by omega) (k2 j o (by omega) (pre_get p0 e))
  · rw [List.getElem?_set_ne (by omega), K.nil]
    exact k5 _ _ (by omega) e2
  · rw [List.getElem?_set_ne (by omega)]
    exact k5 _ _ (by omega) e3
theorem k_pairsof (M1 : Mc n1 s1 T1 m1) (M2 : Mc n2 s2 T2 m2) (l1 : n1.length ≤ 30) (l2 : n2.length ≤ 30) {h : MH} : Sat (m_pairs_of_cf4b8 [tabD F1 n1 s1 T1 K1, tabD F2 n2 s2 T2 K2] h)
    (fun y h' => h <+: h' ∧ ∃ F, RunP (pairF T1 T2) (startsP n1 n2 s1 s2) F ∧ y = .tup [.tup ((nmsP n1 n2).map .str), .tup ((startsP n1 n2 s1 s2).map (ixD F)), .tup (rowsD (pairF T1 T2) F), .tup F] ∧ F.Nodup ∧ F.length ≤ 64 ∧ ∀ s ∈ F, InP m1 m2 s)
    (fun x fs h' => h <+: h' ∧ x = Str.ofString "TooMany" ∧ fs = [] ∧ NoRun (pairF T1 T2) (startsP n1 n2 s1 s2)) := by
  have hs1 := M1.sl
  have hs2 := M2.sl
  have hnm : (nmsP n1 n2).length ≤ 60 := by
    unfold nmsP
    rw [sortS_len]
    have := dups_le (l := n1 ++ n2)
    simp at this
    omega
  have al1 := at_last (sv := s1) (by omega)
  have al2 := at_last (sv := s2) (by omega)
  walk_at "fn"
  refine (k_pginit (K := gkQ m1 m2) h).mono ?_
  rintro y h1 ⟨rfl, p1, jn, js, g1, n1', n2'⟩
  refine ⟨by trivial, ?_⟩
  walk_at "go"
  refine (k_allnames (by omega) (by omega)).mono ?_
  rintro y h2 ⟨jN, rfl, o2⟩
  have gN := o2.atL 0 rfl
  walk_at "go"
  refine o_compG (fun k y _ => y = (((nmsP n1 n2).map (stP n1 n2 s1 s2)).getD k .non)) (Own.nil h2) (by simp; omega) (fun h' p => decide_eq_true (pre_getL p gN)) (fun _ _ _ _ _ z => z) ?_ ?_
  · rintro k d h' hd p' _
    rw [List.getElem?_map, Option.map_eq_some_iff] at hd
    obtain ⟨x, ex, rfl⟩ := hd
    refine ⟨_, rfl, ?_⟩
    dsimp only [wipeD, List.set]
    walk_at "go"
    refine (c_start M1 x).mono ?_
    rintro d h3 ⟨rfl, rfl⟩
    walk_at "go"
    refine (c_start M2 x).mono ?_
    rintro d h4 ⟨rfl, rfl⟩
    walk_at "go"
    refine ⟨List.prefix_rfl, ?_⟩
    rw [List.getD_eq_getElem?_getD, List.getElem?_map, ex]
    rfl
  · rintro ys h3 hy hv o3
    have ey : ys = (nmsP n1 n2).map (stP n1 n2 s1 s2) := by
      refine List.ext_getElem (by simpa using hy) fun k h1 h2 => ?_
      rw [hv k _ (List.getElem?_eq_getElem h1), List.getD_eq_getElem?_getD, List.getElem?_eq_getElem h2]
      rfl
    subst ey
    walk_at "go"
    refine o_app o3 0 rfl (by simp; omega) fun h4 o4 => ?_
    have o24 := o2.trans o4
    have k4 : h1 <+: h4 := o24.pre
    have g4 : GC (gkQ m1 m2) (Str.ofString "PairGrower") (frP (tabD F1 n1 s1 T1 K1) (tabD F2 n2 s2 T2 K2)) h.length jn js [] h4 := ⟨pre_get k4 g1.ins, pre_get k4 g1.num, pre_get k4 g1.sts, g1.nd, g1.le, g1.ok⟩
    have l1' := (List.getElem?_eq_some_iff.mp g1.num).1
    have l2' := (List.getElem?_eq_some_iff.mp g1.sts).1
    have hst := o4.atL 0 rfl
    have hjs : h2.length ≤ h2.length := Nat.le_refl _
    have l12 := o2.pre.length_le
    have hins : h4[h.length]? = some (.ins (Str.ofString "PairGrower") ((Str.ofString "numbers", .ref jn) :: (Str.ofString "states", .ref js) :: [(Str.ofString "one", tabD F1 n1 s1 T1 K1), (Str.ofString "other", tabD F2 n2 s2 T2 K2)])) := g4.ins
    have gN4 := pre_getL o4.pre gN
    have est : (nmsP n1 n2).map (stP n1 n2 s1 s2) ++ [lsP s1 s2] = startsP n1 n2 s1 s2 := rfl
    have hst' : getL h4 h2.length = some (startsP n1 n2 s1 s2) := hst
    have hsl : (startsP n1 n2 s1 s2).length ≤ 64 := by unfold startsP; simp; omega
    walk_at "go"
    rw [tab_g]
    refine (k_gtables (stpP M1 M2) hst' (starts_ok M1 M2) hsl g4 trivial (Y0 := fun _ => True) trivial trivial trivial trivial (by omega) (by omega)).monoE ?_ ?_
    · rintro y h5 ⟨S0, F, e1, e2, rfl, g5⟩
      have hins5 : h5[h.length]? = some (.ins (Str.ofString "PairGrower") ((Str.ofString "numbers", .ref jn) :: (Str.ofString "states", .ref js) :: [(Str.ofString "one", tabD F1 n1 s1 T1 K1), (Str.ofString "other", tabD F2 n2 s2 T2 K2)])) := g5.gc.ins
      have gs5 := getL_of g5.gc.sts
      have kept : ∀ (j : Nat) (o : MO), j ≠ jn → j ≠ js → h4[j]? = some o → h5[j]? = some o := fun j o a b c => g5.kept j o (List.getElem?_eq_some_iff.mp c).1 trivial a b c
      have gN5 : getL h5 jN = some ((nmsP n1 n2).map .str) := by
        have cN := pre_get o4.pre (o2.at 0 rfl)
        have hj := (o2.cell _ List.mem_cons_self).1
        have hj : h1.length ≤ jN := hj
        exact getL_of (kept _ _ (by omega) (by omega) cN)
      refine ⟨_, rfl, ?_⟩
      dsimp only [List.set]
      walk_at "go"
      refine ⟨pre_of (by have := k4.length_le; have := p1.length_le; have := g5.len; omega) fun j o e => ?_, F, ⟨S0, e1, e2⟩, rfl, g5.gc.nd, g5.gc.le, g5.gc.ok⟩
      have lj := (List.getElem?_eq_some_iff.mp e).1
      exact kept j o (by omega) (by omega) (pre_get k4 (pre_get p1 e))
    · rintro x fs h5 ⟨rfl, rfl, ⟨S0, e1, e2⟩, S, g5⟩
      refine ⟨pre_of (by have := k4.length_le; have := p1.length_le; have := g5.len; omega) fun j o e => ?_, rfl, rfl, S0, e1, e2⟩
      have lj := (List.getElem?_eq_some_iff.mp e).1
      exact g5.kept j o (by have := k4.length_le; have := p1.length_le; omega) trivial (by omega) (by omega) (pre_get k4 (pre_get p1 e))
end
end
section
open PySem L2
/-! what comes, what stands in a form: plain -/
inductive Come (st : List Int) (sp : List (List Int)) : Nat → Prop
  | start {s : Nat} : (s : Int) ∈ st → Come st sp s
  | step {p q : Nat} : Come st sp p → Come st sp q → Come st sp (nx sp p q)
theorem SInv.come {st : List Int} {sp : List (List Int)} {t : Tb} (i : SInv st sp t) (c : closed sp t) (s : Nat) : (∃ z, t[s]? = some (some z)) ↔ Come st sp s := by
  constructor
  · rintro ⟨z, hz⟩
    have : ∀ n z s : Nat, z ≤ n → t[s]? = some (some z) → Come st sp s := by
      intro n
      induction n with
      | zero =>
        intro z s hn hz
        have := (i.pos s z hz).1
        omega
      | succ n ih =>
        intro z s hn hz
        rcases i.sup s z hz with ⟨_, h⟩ | ⟨p, q, a, b, e1, e2, e3, e4⟩
        · exact .start h
        · have ha := (i.pos p a e1).1
          have hb := (i.pos q b e2).1
          rw [← e3]
          exact .step (ih a p (by omega) e1) (ih b q (by omega) e2)
    exact this z z s (Nat.le_refl _) hz
  · intro h
    induction h with
    | start h => exact ⟨1, i.sta _ h⟩
    | step _ _ h1 h2 =>
      obtain ⟨a, ha⟩ := h1
      obtain ⟨b, hb⟩ := h2
      obtain ⟨d, hd, _⟩ := c _ _ a b ha hb
      exact ⟨d, hd⟩
/-- how many are true -/
def cT : List Bool → Nat
  | [] => 0
  | true :: t => cT t + 1
  | false :: t => cT t
/-- what may yet come to have the form; what stands in it -/
inductive Ah (C : Nat → Prop) (sp : List (List Int)) (bit : Nat → Prop) : Nat → Prop
  | base {s : Nat} : C s → bit s → Ah C sp bit s
  | app {p q : Nat} : C p → C q → Ah C sp bit (nx sp p q) → Ah C sp bit p
  | put {p q : Nat} : C p → C q → Ah C sp bit (nx sp p q) → Ah C sp bit q
def Fo (C : Nat → Prop) (sp : List (List Int)) (bit : Nat → Prop) (s : Nat) : Prop := C s ∧ bit s ∨ ∃ p, C p ∧ C s ∧ Ah C sp bit (nx sp p s)
section
variable {C : Nat → Prop} {sp : List (List Int)} {bit : Nat → Prop}
theorem Fo.c {s : Nat} (h : Fo C sp bit s) : C s := by
  rcases h with ⟨h1, h2⟩ | ⟨p, h1, h2, h3⟩
  · exact h1
  · exact h2
/-- both lists so far -/
structure AF (C : Nat → Prop) (sp : List (List Int)) (bit : Nat → Prop) (a f : List Bool) : Prop where
  la : a.length = sp.length
  lf : f.length = sp.length
  ba : ∀ s, C s → bit s → a[s]? = some true
  bf : ∀ s, C s → bit s → f[s]? = some true
  sa : ∀ s : Nat, a[s]? = some true → Ah C sp bit s
  sf : ∀ s : Nat, f[s]? = some true → Fo C sp bit s
  fa : ∀ s : Nat, f[s]? = some true → a[s]? = some true
def okA (C : Nat → Prop) (sp : List (List Int)) (a f : List Bool) (p q : Nat) : Prop := C p → C q → a[nx sp p q]? = some true → a[p]? = some true ∧ f[q]? = some true
theorem set_mono {l : List Bool} {s r : Nat} (h : l[r]? = some true) : (l.set s true)[r]? = some true := by
  rw [List.getElem?_set]
  have := (List.getElem?_eq_some_iff.mp h).1
  split
  · rename_i e; subst e; simp [this]
  · exact h
theorem set_hit {l : List Bool} {s : Nat} (h : s < l.length) : (l.set s true)[s]? = some true := by
  rw [List.getElem?_set]; simp [h]
theorem set_back {l : List Bool} {s r : Nat} (h : (l.set s true)[r]? = some true) : r = s ∨ l[r]? = some true := by
  rw [List.getElem?_set] at h
  split at h
  · rename_i e; exact .inl e.symm
  · exact .inr h
theorem AF.upd {a f : List Bool} {p q : Nat} (i : AF C sp bit a f) (hp : p < sp.length) (hq : q < sp.length) (cp : C p) (cq : C q) (h : a[nx sp p q]? = some true) : AF C sp bit ((a.set p true).set q true) (f.set q true) := by
  have hah := i.sa _ h
  refine ⟨by simp [i.la], by simp [i.lf], fun s h1 h2 => set_mono (set_mono (i.ba s h1 h2)), fun s h1 h2 => set_mono (i.bf s h1 h2), fun s hs => ?_, fun s hs => ?_, fun s hs => ?_⟩
  · rcases set_back hs with rfl | hs
    · exact .put cp cq hah
    rcases set_back hs with rfl | hs
    · exact .app cp cq hah
    · exact i.sa s hs
  · rcases set_back hs with rfl | hs
    · exact .inr ⟨p, cp, cq, hah⟩
    · exact i.sf s hs
  · rcases set_back hs with rfl | hs
    · exact set_hit (by simp [i.la, hq])
    · exact set_mono (set_mono (i.fa s hs))
theorem AF.done {a f : List Bool} (i : AF C sp bit a f) (h : ∀ p q, okA C sp a f p q) (s : Nat) : f[s]? = some true ↔ Fo C sp bit s := by
  refine ⟨i.sf s, fun hs => ?_⟩
  have ha : ∀ s, Ah C sp bit s → a[s]? = some true := by
    intro s hs
    induction hs with
    | base h1 h2 => exact i.ba _ h1 h2
    | app h1 h2 _ ih => exact (h _ _ h1 h2 ih).1
    | put h1 h2 _ ih => exact i.fa _ (h _ _ h1 h2 ih).2
  rcases hs with ⟨h1, h2⟩ | ⟨p, h1, h2, h3⟩
  · exact i.bf s h1 h2
  · exact (h p s h1 h2 (ha _ h3)).2
/-- what the law finds, going up -/
def nxt (sp : List (List Int)) (x : Nat) (w : Bool) (o : Nat) : Nat := if w then nx sp o x else nx sp x o
def vl (C : Nat → Prop) (sp : List (List Int)) (bit : Nat → Prop) (st : Nat) (e : Nat × Bool) : Prop := C e.1 ∧ ((if e.2 then Fo C sp bit e.1 else ∃ o, C o ∧ Ah C sp bit (nx sp e.1 o)) → Fo C sp bit st)
end
end
section
open PySem L2
def m_any_names_23d34 : List D → MH → R D := mFun 2 8
 (mSeq (mAsg 2 (mC (.str (Str.ofString "abcdefghijklmnopqrstuvwxyz"))))
 (mSeq (mAsg 3 (mLst (mNil)))
 (mSeq (mFor (mRange1 (mVar 1)) (mgName 4)
 (mSeq (mAsg 5 (mBin dAdd (mC (.int 1)) (mBin dMod (mVar 0) (mC (.int 8)))))
 (mSeq (mAsg 0 (mBin dFdiv (mVar 0) (mC (.int 8))))
 (mSeq (mAsg 6 (mC (.str (Str.ofString ""))))
 (mSeq (mWhile 1000 (mB (mBin dLt (mCall dLen (mCons (mVar 6) (mNil))) (mVar 5)))
 (mSeq (mAsg 6 (mBin dAdd (mVar 6) (mBin dIx (mVar 2) (mBin dMod (mVar 0) (mC (.int 26))))))
 (mAsg 0 (mBin dFdiv (mVar 0) (mC (.int 26))))))
 (mSeq (mAsg 7 (mC (.int 0)))
 (mSeq (mWhile 1000 (mB (mBin dIn (mVar 6) (mVar 3)))
 (mSeq (mAsg 6 (mBin dMul (mBin dIx (mVar 2) (mBin dMod (mVar 7) (mC (.int 26)))) (mBin dAdd (mC (.int 1)) (mBin dFdiv (mVar 7) (mC (.int 26))))))
 (mAsg 7 (mBin dAdd (mVar 7) (mC (.int 1))))))
 (mDrop (mMeth isListD dAppend (mVar 3) (mCons (mVar 6) (mNil)))))))))))
 (mRet (mVar 3)))))
end
section
open PySem L2
def m_names_53c1e : List D → MH → R D := mFun 2 10
 (mSeq (mAsg 2 (mC (.str (Str.ofString "abcdefghijklmnopqrstuvwxyz"))))
 (mSeq (mIf (mB (mBin dGe (mVar 0) (mBin dPow (mC (.int 10)) (mC (.int 18)))))
 (mRet (mCall (m_any_names_23d34) (mCons (mVar 0) (mCons (mVar 1) (mNil)))))
 (mSkip))
 (mSeq (mAsg 3 (mBin dMod (mVar 0) (mC (.int 1000003))))
 (mSeq (mAsg 4 (mMeth isStrD dJoin (mC (.str (Str.ofString ""))) (mCons (mLc (mRange1 (mC (.int 8))) (mgName 8) (mYes) (mBin dIx (mVar 2) (mBin dMod (mBin dMod (mBin dMul (mVar 3) (mBin dAdd (mBin dMul (mVar 8) (mVar 8)) (mC (.int 7)))) (mC (.int 10007))) (mC (.int 26)))) [8]) (mNil))))
 (mSeq (mIf (mB (mBin dEq (mBin dMod (mVar 3) (mC (.int 2))) (mC (.int 0))))
 (mRet (mLc (mRange1 (mVar 1)) (mgName 8) (mYes) (mSl (mVar 4) (mNo) (mSome (mBin dAdd (mVar 8) (mC (.int 1))))) [8]))
 (mSkip))
 (mSeq (mAsg 5 (mBin dMod (mBin dFdiv (mVar 3) (mC (.int 2))) (mC (.int 8))))
 (mSeq (mAsg 6 (mBin dAdd (mBin dAdd (mVar 5) (mC (.int 1))) (mBin dMod (mBin dFdiv (mVar 3) (mC (.int 16))) (mBin dSub (mC (.int 8)) (mVar 5)))))
 (mSeq (mAsg 7 (mLst (mNil)))
 (mSeq (mFor (mRange1 (mVar 1)) (mgName 8)
 (mSeq (mAsg 9 (mBin dIx (mVar 2) (mBin dMod (mBin dAdd (mBin dFdiv (mVar 3) (mC (.int 128))) (mVar 8)) (mC (.int 26)))))
 (mDrop (mMeth isListD dAppend (mVar 7) (mCons (mSl (mBin dAdd (mBin dAdd (mSl (mVar 4) (mNo) (mSome (mVar 5))) (mVar 9)) (mSl (mVar 4) (mSome (mBin dAdd (mVar 5) (mC (.int 1)))) (mNo))) (mNo) (mSome (mVar 6))) (mNil))))))
 (mRet (mVar 7)))))))))))
end
end Mi


/-! list(d), sorted(d) of a dict with whole numbers as keys. -/
namespace Mi
open PySem L2 PySem.Spec PyProof.Rows
def leI (a b : Int) : Bool := decide (a ≤ b)
def rSortKI : List V → Hp → VK → Prop := fun xs H Q => ∃ (a : Addr) (kvs : List (Key × V)) (ys : List Int), xs = [V.ref a] ∧ H a = some (.dK kvs) ∧ kvs.map (·.1) = ys.map Sum.inl ∧ ∀ p, H p = none → Q (.ref p) (upd H p (.lst ((sortI ys).map V.int)))
/-- the keys, all of them whole numbers -/
def intKeys : List (Key × D) → Option (List Int)
  | [] => some []
  | (.inl x, _) :: l => (intKeys l).map (x :: ·)
  | (.inr _, _) :: _ => none
def dSortKI : List D → MH → R D
  | [x], h => match getK h x with
    | some l => match intKeys l with
      | some ys => .ok (.ref h.length) (h ++ [.lst ((sortI ys).map .int)])
      | none => .bad
    | none => .bad
  | _, _ => .bad
/-! ### list(d) -/
def rListK : List V → Hp → VK → Prop := fun xs H Q => ∃ (a : Addr) (kvs : List (Key × V)), xs = [V.ref a] ∧ H a = some (.dK kvs) ∧ ∀ p, H p = none → Q (.ref p) (upd H p (.lst (kvs.map fun e => kV e.1)))
def dListK : List D → MH → R D
  | [x], h => match getK h x with
    | some l => .ok (.ref h.length) (h ++ [.lst (l.map fun p => kD p.1)])
    | none => .bad
  | _, _ => .bad
end Mi
namespace Mi
open PySem L2
end Mi

/-! sorted of a list of triples of whole numbers -/
namespace Mi
open PySem L2 PySem.Spec PyProof.Rows
def triD (p : Int × Int × Int) : D := .tup [.int p.1, .int p.2.1, .int p.2.2]
def allTri : List D → Option (List (Int × Int × Int))
  | [] => some []
  | .tup [.int a, .int b, .int c] :: l => (allTri l).map ((a, b, c) :: ·)
  | _ => none
def encQ (b : Int × Int × Int) : PyData := .tuple [.int b.1, .int b.2.1, .int b.2.2]
def sortQ (l : List (Int × Int × Int)) : List (Int × Int × Int) := l.mergeSort (PySem.W.dataLe false encQ)
def TriV (K : PySem.W.Frag) (H : Hp) (x : V) (b : Int × Int × Int) : Prop := ∃ q, x = .ref q ∧ Tk K H q [.int b.1, .int b.2.1, .int b.2.2]
abbrev TrisV (K : PySem.W.Frag) (H : Hp) : List V → List (Int × Int × Int) → Prop := PySem.W.EachIs (TriV K H)
def rSortQ (K : PySem.W.Frag) : List V → Hp → VK → Prop := fun xs H Q => ∃ p ys bs, xs = [V.ref p] ∧ SqL K H p ys ∧ TrisV K H ys bs ∧ ∀ zs r, TrisV K H zs (sortQ bs) → H r = none → Q (.ref r) (upd H r (.lst zs))
theorem each_tris {K : PySem.W.Frag} {H : Hp} : ∀ {ys : List V} {its : List Value} {bs : List (Int × Int × Int)}, Vals ys its → TrisV K H ys bs → PySem.W.EachIs (fun v b => ∃ x, RelV x v ∧ TriV K H x b) its bs
  | _, _, _, .nil, .nil => .nil
  | _, _, _, .cons a r, .cons c t => .cons ⟨_, a, c⟩ (each_tris r t)
theorem tris_each {K : PySem.W.Frag} {H : Hp} : ∀ {out : List Value} {bs : List (Int × Int × Int)}, PySem.W.EachIs (fun v b => ∃ x, RelV x v ∧ TriV K H x b) out bs → ∃ zs, Vals zs out ∧ TrisV K H zs bs
  | _, _, .nil => ⟨[], .nil, .nil⟩
  | _, _, .cons h t => by
    obtain ⟨x, a, c⟩ := h
    obtain ⟨zs, r, t⟩ := tris_each t
    exact ⟨x :: zs, .cons a r, .cons c t⟩
theorem trisV_len {K : PySem.W.Frag} {H : Hp} : ∀ {zs : List V} {bs : List (Int × Int × Int)}, TrisV K H zs bs → zs.length = bs.length
  | _, _, .nil => rfl
  | _, _, .cons _ t => by rw [List.length_cons, List.length_cons, trisV_len t]
section
variable {X : Cx} {pins : List (Addr × Obj)} {σ : L2.St} {H : Hp} {s : Shared}
theorem reads_tri (I : L2.Inv X pins σ H s) {v : Value} {x : V} {b : Int × Int × Int} (rx : RelV x v) (hx : TriV X.K H x b) : Reads s.heap v (encQ b) [] := by
  obtain ⟨q, rfl, tk⟩ := hx
  obtain rfl : v = Value.ref q := rx
  obtain ⟨ws, rv, ⟨o, ho, hcl, n, hd⟩, _⟩ := I.tuple tk.sq
  cases rv with
  | cons ri rv =>
    cases rv with
    | cons rj rv =>
      cases rv with
      | cons rk rv =>
        cases rv
        obtain ⟨t1, rfl⟩ := ri
        obtain ⟨t2, rfl⟩ := rj
        obtain ⟨t3, rfl⟩ := rk
        exact .tuple ho hcl hd (.cons (.int _ _) (.cons (.int _ _) (.cons (.int _ _) .nil)))
theorem cr_sortQ (hu : X.A.units + 65 < cLine) : CallR X (.builtin "sorted") (rSortQ X.K) := by
  intro pins s σ H xs us Q I rr hh
  obtain ⟨p, ys, bs, rfl, hs, hp, q⟩ := hh
  obtain ⟨its, rv, pl, zl⟩ := I.list hs
  obtain ⟨u, rfl, ru⟩ := vals1 rr
  obtain rfl : u = Value.ref p := ru
  have e := each_tris rv hp
  have hlen := trisV_len hp
  refine PySem.W.sorted_data (vs := its) (bs := bs) (enc := encQ) (R := fun v b => ∃ x, RelV x v ∧ TriV X.K H x b) pl.isList e (e.mono fun v b ⟨x, a, c⟩ => ⟨[], reads_tri I a c⟩) (PySem.W.AllAlike.of fun _ _ => rfl) (PySem.W.Sortable.tuples fun b => ⟨_, _, rfl⟩) (by rw [← hlen]; exact zl) (fun b _ => ?_) fun out ho hR => ?_
  · have : (encQ b).depth ≤ 1 := by unfold encQ; simp [PyData.depth, PyData.depthAll]
    omega
  · obtain ⟨zs, vz, pz⟩ := tris_each hR
    obtain ⟨ep, he⟩ := PyProof.Rows.sortedAll_at s.heap its out.toArray
    refine ⟨.ref _, upd H (s.heap.objs.size + 1) (.lst zs), I.laid (t' := s.toks) (fun _ _ => PyProof.Rows.sortedAll_old) (Nat.le_succ _) ⟨?_, out, ep, vz, he⟩, rfl, q _ _ pz (I.hok.fresh (Nat.le_succ _))⟩
    rw [vz.length, ho, ← hlen]
    exact zl
end
def dSortQ : List D → MH → R D
  | [x], h => match x with
    | .ref i => match getL h i with
      | some l => match allTri l with
        | some ps => .ok (.ref h.length) (h ++ [.lst ((sortQ ps).map triD)])
        | none => .bad
      | none => .bad
    | _ => .bad
  | _, _ => .bad
theorem trisV_of {g : G} {H : Hp} {μ : List Addr} : ∀ {l : List D} {xs : List V} {ps : List (Int × Int × Int)}, VRs g H μ xs l → allTri l = some ps → TrisV g.K H xs ps
  | [], _, _, .nil, e => by cases e; exact .nil
  | d :: l, _, ps, .cons a b, e => by
    unfold allTri at e
    split at e
    · rename_i e0; cases e0
    · rename_i i j k l' e0
      cases e0
      rw [Option.map_eq_some_iff] at e
      obtain ⟨r, e, rfl⟩ := e
      cases a with
      | tup tk vs =>
        cases vs with
        | cons v1 vs =>
          cases vs with
          | cons v2 vs =>
            cases vs with
            | cons v3 vs =>
              cases vs
              cases v1
              cases v2
              cases v3
              exact .cons ⟨_, rfl, tk⟩ (trisV_of b e)
    · cases e
theorem vrs_tris {g : G} {H : Hp} {μ : List Addr} : ∀ {zs : List V} {cs : List (Int × Int × Int)}, TrisV g.K H zs cs → VRs g H μ zs (cs.map triD)
  | _, _, .nil => .nil
  | _, _, .cons h t => by
    obtain ⟨q, rfl, tk⟩ := h
    exact .cons (.tup tk (.cons (.int _) (.cons (.int _) (.cons (.int _) .nil)))) (vrs_tris t)
theorem sn_sortQ {g : G} : SN g (rSortQ g.K) dSortQ := sn1 (fun H μ h x a Q W hr va bk => by
  cases va with
  | @ref p i hi =>
    simp only [dSortQ] at bk
    split at bk
    · rename_i l e1
      split at bk
      · rename_i ps e2
        obtain ⟨xs, hs, vs⟩ := hr.list hi e1
        exact ⟨p, xs, ps, rfl, hs, trisV_of vs e2, fun zs r h1 h3 => bk.newL hr (vrs_tris h1) h3⟩
      · exact bk.elim
    · exact bk.elim
  | _ => exact bk.elim) (fun _ => rfl) (fun a b l h => by simp [dSortQ])
theorem allTri_map : ∀ l : List (Int × Int × Int), allTri (l.map triD) = some l
  | [] => rfl
  | p :: l => by
    show (allTri (l.map triD)).map (((p.1, p.2.1, p.2.2) : Int × Int × Int) :: ·) = _
    rw [allTri_map l]
    rfl
theorem w_sortQ {h : MH} {Q : D → MH → Prop} {E : XE} {i : Nat} {l : List (Int × Int × Int)} (e : getL h i = some (l.map triD)) (q : Q (.ref h.length) (h ++ [.lst ((sortQ l).map triD)])) : Sat (dSortQ [.ref i] h) Q E := w_eq (by simp only [dSortQ, e, allTri_map]) q
end Mi

/-! dicts with tuple keys whose key objects are kept: d[k] = v, k not in d, list(d) -/
namespace Mi
open PySem L2 PySem.Spec PyProof.Rows
def getT (h : MH) (x : D) : Option (List (D × D)) := match x with
  | .ref i => match h[i]? with
    | some (.dT l) => some l
    | some (.dK []) => some []
    | _ => none
  | _ => none
def valT (kvs : List (D × D)) (k : NestedKey) : Option D := (kvs.find? fun x => decide (nkD x.1 = some k)).map (·.2)
def putT (kvs : List (D × D)) (e : D) (k : NestedKey) (d : D) : List (D × D) :=
  if (valT kvs k).isSome = true then kvs.map (fun x => if nkD x.1 = some k then (x.1, d) else x) else kvs ++ [(e, d)]
section
variable {g : G} {H : Hp} {μ : List Addr} {h : MH}
theorem TR.keys : ∀ {xs : NE} {kvs : List (D × D)}, TR g H μ xs kvs → NKeys g.K H xs
  | _, _, .nil => fun e he => by simp at he
  | _, _, .cons a e l r v b => fun x hx => by
    rcases List.mem_cons.mp hx with rfl | hx
    · exact ⟨nkv_of _ _ _ a e, l⟩
    · exact TR.keys b x hx
theorem TR.val (k : NestedKey) : ∀ {xs : NE} {kvs : List (D × D)}, TR g H μ xs kvs → (atKey xs k = none ∧ valT kvs k = none) ∨ ∃ a u v d, atKey xs k = some (a, u) ∧ valT kvs k = some d ∧ RelV v u ∧ VR g H μ v d
  | _, _, .nil => .inl ⟨rfl, rfl⟩
  | _, _, @TR.cons _ _ _ k' a u e d v xs ds va ek l r vd b => by
    by_cases c : k' = k
    · refine .inr ⟨a, u, v, d, ?_, ?_, r, vd⟩
      · simp [atKey, List.find?_cons, c]
      · simp [valT, List.find?_cons, ek, c]
    · have e1 : atKey ((k', a, u) :: xs) k = atKey xs k := by simp [atKey, List.find?_cons, c]
      have e2 : valT ((e, d) :: ds) k = valT ds k := by simp [valT, List.find?_cons, ek, c]
      rw [e1, e2]
      exact TR.val k b
theorem TR.some_eq (k : NestedKey) {xs : NE} {kvs : List (D × D)} (r : TR g H μ xs kvs) : (atKey xs k).isSome = (valT kvs k).isSome := by
  rcases r.val k with ⟨e1, e2⟩ | ⟨a, u, v, d, e1, e2, _⟩ <;> rw [e1, e2] <;> rfl
theorem TR.repl (k : NestedKey) {u : Value} {v : V} {d : D} (ru : RelV v u) (vd : VR g H μ v d) : ∀ {xs : NE} {kvs : List (D × D)}, TR g H μ xs kvs → TR g H μ (xs.map (putAt k u)) (kvs.map fun x => if nkD x.1 = some k then (x.1, d) else x)
  | _, _, .nil => .nil
  | _, _, @TR.cons _ _ _ k' a u' e d' v' xs ds va ek l r vd' b => by
    rw [List.map_cons, List.map_cons]
    by_cases c : k' = k
    · simp only [putAt, c, ek, if_true]
      exact .cons va (c ▸ ek) (c ▸ l) ru vd (TR.repl k ru vd b)
    · have c2 : ¬ (some k' = some k) := fun z => c (Option.some.inj z)
      simp only [putAt, c, ek, c2, if_false]
      exact .cons va ek l r vd' (TR.repl k ru vd b)
theorem TR.snoc {k : NestedKey} {a : Addr} {u : Value} {e d : D} {v : V} (va : VR g H μ (.ref a) e) (ek : nkD e = some k) (l : k.depth ≤ 8) (ru : RelV v u) (vd : VR g H μ v d) : ∀ {xs : NE} {kvs : List (D × D)}, TR g H μ xs kvs → TR g H μ (xs ++ [(k, a, u)]) (kvs ++ [(e, d)])
  | _, _, .nil => .cons va ek l ru vd .nil
  | _, _, .cons a1 e1 l1 r1 v1 b => .cons a1 e1 l1 r1 v1 (TR.snoc va ek l ru vd b)
theorem TR.put {k : NestedKey} {a : Addr} {u : Value} {e d : D} {v : V} (va : VR g H μ (.ref a) e) (ek : nkD e = some k) (l : k.depth ≤ 8) (ru : RelV v u) (vd : VR g H μ v d) {xs : NE} {kvs : List (D × D)} (r : TR g H μ xs kvs) : TR g H μ (storedH xs k a u) (putT kvs e k d) := by
  unfold storedH putT
  rw [r.some_eq k]
  split
  · exact r.repl k ru vd
  · exact r.snoc va ek l ru vd
theorem TR.len : ∀ {xs : NE} {kvs : List (D × D)}, TR g H μ xs kvs → xs.length = kvs.length
  | _, _, .nil => rfl
  | _, _, .cons _ _ _ _ _ b => by rw [List.length_cons, List.length_cons, TR.len b]
theorem TR.objs : ∀ {xs : NE} {kvs : List (D × D)}, TR g H μ xs kvs → VRs g H μ (xs.map fun x => V.ref x.2.1) (kvs.map (·.1))
  | _, _, .nil => .nil
  | _, _, .cons a _ _ _ _ b => .cons a (TR.objs b)
end
def dTNotIn (a b : D) (h : MH) : R D := match nkT a, getT h b with
  | some k, some l => .ok (.bl (!(valT l k).isSome)) h
  | _, _ => .bad
def dTSet (x y d : D) (h : MH) : R Unit := match x, nkT y, getT h x with
  | .ref i, some k, some l => if l.length < 1000000 then .ok () (h.set i (.dT (putT l y k d))) else .bad
  | _, _, _ => .bad
def mTSet (o i e : ME) : MS := fun ρ h => (e ρ h).out ρ fun d h1 => (o ρ h1).out ρ fun x h2 => (i ρ h2).out ρ fun y h3 => (dTSet x y d h3).out ρ fun _ h4 => .nx ρ h4
def dListT : List D → MH → R D
  | [x], h => match getT h x with
    | some l => .ok (.ref h.length) (h ++ [.lst (l.map (·.1))])
    | none => .bad
  | _, _ => .bad
def rListN (K : PySem.W.Frag) (w : World) : List V → Hp → VK → Prop := fun xs H Q => ∃ (p : Addr) (es : NE), xs = [V.ref p] ∧ NDct w H p es ∧ NKeys K H es ∧ ∀ r, H r = none → Q (.ref r) (upd H r (.lst (es.map fun e => V.ref e.2.1)))
section
variable {X : Cx} {g : G} {W : WX}
variable {o i e : Expr} {mo mi me : ME} {pos p2 : Pos}
end
/-! the calculus -/
section
variable {Q : D → MH → Prop} {E : XE} {h : MH} {ρ : Slots}
end
end Mi

/-! sorted(set(t)) of a tuple of texts -/
namespace Mi
open PySem L2 PySem.Spec PyProof.Rows
section
variable {P : Program} {w : World} {A : Around} {E : Value → Shared → Prop} {s : Shared}
set_option maxHeartbeats 3200000 in
end
def mSortSetT (a : ME) : ME := fun ρ h => (a ρ h).bind fun x h1 => match x with
  | .tup l => match allStr l with
    | some ys => if ys.length < 4000 then .ok (.ref h1.length) (h1 ++ [.lst ((sortS (ys.eraseDups)).map .str)]) else .bad
    | none => .bad
  | _ => .bad
section
variable {X : Cx} {g : G} {W : WX} {ma : ME} {a : Expr} {p p2 q pos : Pos}
end
def dSortSetT : List D → MH → R D
  | [x], h1 => match x with
    | .tup l => match allStr l with
      | some ys => if ys.length < 4000 then .ok (.ref h1.length) (h1 ++ [.lst ((sortS (ys.eraseDups)).map .str)]) else .bad
      | none => .bad
    | _ => .bad
  | _, _ => .bad
section
variable {X : Cx} {g : G} {W : WX} {ma : ME} {a : Expr} {p p2 q pos : Pos}
end
end Mi

/-! max(l, default=d); == of deep data -/
namespace Mi
open PySem L2 PySem.Spec PyProof.Rows
def rMaxD (K : PySem.W.Frag) (a d : V) (H : Hp) (Q : VK) : Prop := ∃ p ns, a = .ref p ∧ SqL K H p (ns.map .int) ∧ (ns = [] → Q d H) ∧ ∀ n r, ns = n :: r → Q (.int (r.foldl max n)) H
section
variable {X : Cx} {x : Str} {p pos kpos : Pos} {e o : Expr} {te tk : TE}
end
def dMaxD : D → D → MH → R D
  | .ref i, d, h => match (getL h i).bind allInt with
    | some [] => .ok d h
    | some (n :: r) => .ok (.int (r.foldl max n)) h
    | none => .bad
  | _, _, _ => .bad
section
variable {X : Cx} {g : G} {W : WX} {a o : Expr} {ma mo : ME} {pos p kpos : Pos} {x : Str}
end
/-! ### == of deep data -/
def shapedX (d : PyData) : Bool := d.canLay0 && decide (d.depth ≤ 160)
def eqX (a b : D) (h : MH) : Option Bool := match pyOf 200 h a, pyOf 200 h b with
  | some d, some e => if shapedX d = true ∧ shapedX e = true then some (PyData.eqv d e) else none
  | _, _ => none
def dEqX (a b : D) (h : MH) : R D := match eqX a b h with
  | some k => .ok (.bl k) h
  | none => .bad
def dNeX (a b : D) (h : MH) : R D := match eqX a b h with
  | some k => .ok (.bl (!k)) h
  | none => .bad
def rEqX (K : PySem.W.Frag) : R2 := fun x y H Q => ∃ d e, Dp K H x d ∧ Dp K H y e ∧ shapedX d = true ∧ shapedX e = true ∧ Q (.bl (PyData.eqv d e)) H
def rNeX (K : PySem.W.Frag) : R2 := fun x y H Q => ∃ d e, Dp K H x d ∧ Dp K H y e ∧ shapedX d = true ∧ shapedX e = true ∧ Q (.bl (!PyData.eqv d e)) H
section
variable {X : Cx}
end
section
variable {g : G} {H : Hp} {μ : List Addr} {h : MH}
end
end Mi

/-! text methods: split(sep), strip(chars), startswith(prefix); list.count of ints -/
namespace Mi
open PySem L2 PySem.Spec PyProof.Rows
def dSplit : D → List D → MH → R D
  | .str a, [.str b], h => if (b.length == 0) = false ∧ a.length ≤ 900000 then .ok (.ref h.length) (h ++ [.lst ((Txt.split a b).map .str)]) else .bad
  | _, _, _ => .bad
def dStripC : D → List D → MH → R D
  | .str a, [.str b], h => if a.length ≤ 900000 then .ok (.str (Txt.stripChars a b)) h else .bad
  | _, _, _ => .bad
def dStartsw : D → List D → MH → R D
  | .str a, [.str b], h => .ok (.bl (Txt.startswith a b)) h
  | _, _, _ => .bad
def dLCount : D → List D → MH → R D
  | .ref i, [.int k], h => match (getL h i).bind allInt with
    | some ns => .ok (.int (ns.count k : Nat)) h
    | none => .bad
  | _, _, _ => .bad
section
variable {g : G}
end
section
variable {h : MH} {Q : D → MH → Prop} {E : XE} {x y : Str}
end
end Mi

/-! comprehensions over triples; sorted of texts, of any number -/
namespace Mi
open PySem L2 PySem.Spec PyProof.Rows
def rSortT (K : PySem.W.Frag) : List V → Hp → VK → Prop := fun xs H Q => ∃ p ys, xs = [V.ref p] ∧ SqL K H p (ys.map V.str) ∧ ∀ r, H r = none → Q (.ref r) (upd H r (.lst ((sortS ys).map V.str)))
section
variable {X : Cx}
end
def dSortT : List D → MH → R D
  | [x], h => match x with
    | .ref i => match (getL h i).bind allStr with
      | some ys => .ok (.ref h.length) (h ++ [.lst ((sortS ys).map .str)])
      | none => .bad
    | _ => .bad
  | _, _ => .bad
end Mi

/-! {k: v} where k is a tuple. -/
namespace Mi
open PySem L2 PySem.Spec PyProof.Rows
open PySem.Sem (wp)
section
variable {prog : Program} {w : World} {K : Type} [DecidableEq K] {knd : HeapKind prog w K} {A : Around} {E : Value → Shared → Prop} {s : Shared}
end
def tDisp1N (K : PySem.W.Frag) (w : World) (trs : List (TE × TE)) : TE := fun σ H Q => ∀ p, H p = none → tPairs trs σ (upd H p (.dK [])) fun ps H2 => H2 p = some (.dK []) ∧ ∃ a y k, ps = [(.ref a, y)] ∧ NkV K H2 k (.ref a) ∧ k.depth ≤ 8 ∧ ∀ u, RelV y u → Q (.ref p) (upd H2 p (DN w p [(k, a, u)]))
def mDict1N (k v : ME) : ME := fun ρ h => (k ρ (h ++ [.dK []])).bind fun x h1 => (v ρ h1).bind fun y h2 => if h2[h.length]? = some (.dK []) then match nkT x with
  | some kk => .ok (.ref h.length) (h2.set h.length (.dN [(kk, y)]))
  | none => .bad else .bad
end Mi

/-! zip of a tuple and a list. -/
namespace Mi
open PySem L2 PySem.Spec PyProof.Rows
open PySem.Sem (wp)
/-- the tuple at a and the list at b as they stand at each turn, the items in new pairs -/
def ItzM (K : PySem.W.Frag) (a b : Addr) : L2.It :=
  ⟨fun i H => ∃ (xs ys : List V) (x y : V), SqT K H a xs ∧ SqL K H b ys ∧ xs[i]? = some x ∧ ys[i]? = some y,
    fun i H v H' => ∃ T x y, v = .ref T ∧ H T = none ∧ H' = upd H T (.tup [x, y]) ∧ (∀ xs, SqT K H a xs → xs[i]? = some x) ∧ ∀ ys, SqL K H b ys → ys[i]? = some y,
    fun i H => ∃ xs ys : List V, SqT K H a xs ∧ SqL K H b ys ∧ (xs.length ≤ i ∨ ys.length ≤ i)⟩
section
variable {prog : Program} {w : World} {A : Around}
end
def iZipM (K : PySem.W.Frag) (ta : TA) : TI := fun σ H R => ta σ H fun vs H1 => ∃ a b xs ys, vs = [.ref a, .ref b] ∧ SqT K H1 a xs ∧ SqL K H1 b ys ∧ R (ItzM K a b) H1
def zipM (x y : D) (h : MH) : R (List D × (MH → Bool)) := match x, y with
  | .tup l, .ref j => match getL h j with
    | some m => .ok (zipD l m, fun h' => decide (getL h' j = some m)) h
    | none => .bad
  | _, _ => .bad
def mZipM (a b : ME) : MI := fun ρ h => (a ρ h).bind fun x h1 => (b ρ h1).bind fun y h2 => zipM x y h2
section
variable {X : Cx} {g : G} {W : WX} {a b : Expr} {ma mb : ME} {pos : Pos}
end
section
variable {Q : D → MH → Prop} {QI : List D × (MH → Bool) → MH → Prop} {E : XE} {ρ : Slots} {h : MH} {a b : ME}
end
end Mi

/-! a tuple of one thing, none or so many times; long joins -/
namespace Mi
open PySem PySem.Spec PyProof.Rows L2
/-- a tuple of one item no times -/
def rRep0 (K : PySem.W.Frag) : R2 := fun x y H Q => ∃ l z, x = .ref l ∧ y = .int 0 ∧ SqT K H l [z] ∧ ∀ (p : Addr) (ob : Obj), H p = none → ob.dict = none → Q (.ref p) (upd H p (.frz ob (.tup [])))
section
variable {X : Cx}
end
def dRepZ : D → D → MH → R D
  | .tup [z], .int n, h => if n = 0 then .ok (.tup []) h else dRep (.tup [z]) (.int n) h
  | _, _, _ => .bad
section
variable {X : Cx} {g : G}
def rRepZ (K : PySem.W.Frag) : R2 := fun x y H Q => rRepA K x y H Q ∨ rRep0 K x y H Q
end
/-! long joins -/
def dJoinB : D → List D → MH → R D
  | .str a, [b], h => match (seqOf h b).bind allStr with
    | some ys => if (ys.map (·.length)).sum + ys.length * a.length ≤ 16000000 then .ok (.str (Txt.join a ys)) h else .bad
    | none => .bad
  | _, _, _ => .bad
section
variable {g : G}
end
end Mi
namespace Mi
open PySem L2
def m_has_form_255e2 : List D → MH → R D := mFun 3 3
 (mRet (mBin dEq (mBin dMod (mBin dShr (mBin dIx (mBin dIx (mVar 0) (mC (.int 4))) (mVar 1)) (mTIndex (mBin dIx (mVar 0) (mC (.int 0))) (mVar 2))) (mC (.int 2))) (mC (.int 1))))
def m_each_is_49549 : List D → MH → R D := mFun 4 15
 (mSeq (mIf (mB (mBin dNotIn (mVar 1) (mBin dIx (mVar 0) (mC (.int 0)))))
 (mRaise (Str.ofString "NoForm") (Str.ofString "form") (mVar 1))
 (mSkip))
 (mSeq (mIf (mB (mBin dNotIn (mVar 3) (mBin dIx (mVar 2) (mC (.int 0)))))
 (mRaise (Str.ofString "NoForm") (Str.ofString "form") (mVar 3))
 (mSkip))
 (mSeq (mAsgT (mgTup (mgCons (mgName 8) (mgCons (mgName 9) (mgCons (mgName 10) (mgCons (mgName 11) (mgNil)))))) (mCall (m_pairs_of_cf4b8) (mCons (mVar 0) (mCons (mVar 2) (mNil)))))
 (mSeq (mAsg 4 (mLst (mNil)))
 (mSeq (mFor (mIter (mVar 11)) (mgTup (mgCons (mgName 12) (mgCons (mgName 13) (mgNil))))
 (mDrop (mMeth isListD dAppend (mVar 4) (mCons (mCall dInt (mCons (mAndV (mCall (m_has_form_255e2) (mCons (mVar 0) (mCons (mVar 12) (mCons (mVar 1) (mNil))))) (mNotV (mCall (m_has_form_255e2) (mCons (mVar 2) (mCons (mVar 13) (mCons (mVar 3) (mNil))))))) (mNil))) (mNil)))))
 (mSeq (mAsg 5 (mTup (mCons (mTup (mCons (mC (.str (Str.ofString "told"))) (mNil))) (mCons (mVar 8) (mCons (mVar 9) (mCons (mVar 10) (mCons (mCall dTuple (mCons (mVar 4) (mNil))) (mNil))))))))
 (mSeq (mAsg 6 (mCall (m_sizes_9dfee) (mCons (mVar 5) (mNil))))
 (mSeq (mAsg 7 (mLc (mRange1 (mCall dLen (mCons (mVar 11) (mNil)))) (mgName 14) (mYes) (mBin dAdd (mBin dIx (mVar 11) (mVar 14)) (mTup (mCons (mBin dIx (mVar 6) (mVar 14)) (mNil)))) [14]))
 (mRet (mTup (mCons (mCall (m_least_75c60) (mCons (mVar 5) (mCons (mC (.str (Str.ofString "told"))) (mNil)))) (mCons (mCall dSortQ (mCons (mVar 7) (mNil))) (mNil)))))))))))))
end Mi
namespace Mi
open PySem L2
local macro_rules | `(tactic| walk_at "gl") => `(tactic| first
  | assumption
  | (refine Own.atL (h0 := ?_) (L := ?_) ?_ 0 ?_; rotate_left; rotate_left; assumption; rfl)
  | (refine Own.atL (h0 := ?_) (L := ?_) ?_ 1 ?_; rotate_left; rotate_left; assumption; rfl)
  | (refine Own.atL (h0 := ?_) (L := ?_) ?_ 2 ?_; rotate_left; rotate_left; assumption; rfl)
  | (refine Own.atL (h0 := ?_) (L := ?_) ?_ 3 ?_; rotate_left; rotate_left; assumption; rfl)
  | (refine Own.atL (h0 := ?_) (L := ?_) ?_ 4 ?_; rotate_left; rotate_left; assumption; rfl)
  | (refine Own.atL (h0 := ?_) (L := ?_) ?_ 5 ?_; rotate_left; rotate_left; assumption; rfl)
  | (refine Own.atL (h0 := ?_) (L := ?_) ?_ 6 ?_; rotate_left; rotate_left; assumption; rfl)
  | (refine Own.atL (h0 := ?_) (L := ?_) ?_ 7 ?_; rotate_left; rotate_left; assumption; rfl)
  | (refine Own.atL (h0 := ?_) (L := ?_) ?_ 8 ?_; rotate_left; rotate_left; assumption; rfl)
  | (refine Own.atL (h0 := ?_) (L := ?_) ?_ 9 ?_; rotate_left; rotate_left; assumption; rfl)
  | (refine Own.getL (h0 := ?_) (L := ?_) ?_ ?_; rotate_left; rotate_left; assumption; assumption))
local macro_rules | `(tactic| walk_at "il") => `(tactic| first
  | (refine Own.isL (h0 := ?_) (L := ?_) (l := ?_) ?_ 0 ?_; rotate_left; rotate_left; rotate_left; assumption; rfl)
  | (refine Own.isL (h0 := ?_) (L := ?_) (l := ?_) ?_ 1 ?_; rotate_left; rotate_left; rotate_left; assumption; rfl)
  | (refine Own.isL (h0 := ?_) (L := ?_) (l := ?_) ?_ 2 ?_; rotate_left; rotate_left; rotate_left; assumption; rfl)
  | (refine Own.isL (h0 := ?_) (L := ?_) (l := ?_) ?_ 3 ?_; rotate_left; rotate_left; rotate_left; assumption; rfl)
  | (refine Own.isL (h0 := ?_) (L := ?_) (l := ?_) ?_ 4 ?_; rotate_left; rotate_left; rotate_left; assumption; rfl)
  | (refine Own.isL (h0 := ?_) (L := ?_) (l := ?_) ?_ 5 ?_; rotate_left; rotate_left; rotate_left; assumption; rfl)
  | (refine Own.isL (h0 := ?_) (L := ?_) (l := ?_) ?_ 6 ?_; rotate_left; rotate_left; rotate_left; assumption; rfl)
  | (refine Own.isL (h0 := ?_) (L := ?_) (l := ?_) ?_ 7 ?_; rotate_left; rotate_left; rotate_left; assumption; rfl)
  | (refine Own.isL (h0 := ?_) (L := ?_) (l := ?_) ?_ 8 ?_; rotate_left; rotate_left; rotate_left; assumption; rfl)
  | (refine Own.isL (h0 := ?_) (L := ?_) (l := ?_) ?_ 9 ?_; rotate_left; rotate_left; rotate_left; assumption; rfl))
local macro_rules | `(tactic| walk_at "bd") => `(tactic| first | assumption | omega | (simp; done) | (simp; omega) | (simp [*]; done) | (simp [*]; omega))
local macro_rules | `(tactic| walk_at "w") => `(tactic| first
  | with_reducible refine w_seq ?_
  | with_reducible refine w_asg ?_
  | with_reducible refine w_cons ?_
  | with_reducible refine w_nil ?_
  | with_reducible refine w_c ?_
  | ((with_reducible refine w_var (d := ?_) ?_ ?_); rotate_left; rfl)
  | with_reducible refine w_bin ?_
  | with_reducible refine w_call ?_
  | with_reducible refine w_if ?_
  | with_reducible refine w_B ?_
  | with_reducible refine w_unB ?_
  | with_reducible refine w_ret ?_
  | with_reducible refine w_drop ?_
  | with_reducible refine w_skip ?_
  | with_reducible refine w_eq (dAdd_int _ _ _) ?_
  | with_reducible refine w_eq (dSub_int _ _ _) ?_
  | with_reducible refine w_eq (dEq_int _ _ _) ?_
  | with_reducible refine w_eq (dEq_str _ _ _) ?_
  | with_reducible refine w_eq (dNe_strs _ _ _) ?_
  | with_reducible refine w_eq (dEq_bls _ _ _) ?_
  | with_reducible refine w_eq (dNe_bls _ _ _) ?_
  | with_reducible refine w_eq (dLt_int _ _ _) ?_
  | with_reducible refine w_eq (dLe_int _ _ _) ?_
  | with_reducible refine w_eq (dGt_int _ _ _) ?_
  | with_reducible refine w_eq (dGe_int _ _ _) ?_
  | with_reducible refine w_eq (dNe_int _ _ _) ?_
  | ((with_reducible refine w_mod ?_ ?_); (first | assumption | decide | omega))
  | ((with_reducible refine w_fdiv ?_ ?_); (first | assumption | decide | omega))
  | ((with_reducible refine w_mulS ?_ ?_); (first | decide | omega))
  | ((with_reducible refine w_addS ?_ ?_); (first | assumption | decide | omega))
  | ((with_reducible refine w_lenS ?_ ?_); (first | assumption | decide | omega))
  | ((with_reducible refine w_slS ?_ ?_); (first | assumption | decide | omega))
  | with_reducible refine w_lenTm ?_
  | with_reducible refine w_eq (dLen_tup _ _) ?_
  | with_reducible refine w_eq (dSl_tup _ _ _ _) ?_
  | with_reducible refine w_eq (dMax_ev _ _ _) ?_
  | with_reducible refine w_eq (dMin_ev _ _ _) ?_
  | with_reducible refine w_eq (dAbs_ev _ _) ?_
  | with_reducible refine w_not ?_
  | with_reducible refine w_and ?_
  | with_reducible refine w_or ?_
  | with_reducible refine br_n ?_
  | with_reducible refine br_tt ?_
  | with_reducible refine br_ff ?_
  | ((with_reducible refine br_dt ?_ ?_); (first | assumption | omega | rfl))
  | ((with_reducible refine br_df ?_ ?_); (first | assumption | omega))
  | with_reducible refine w_tup ?_
  | ((with_reducible refine w_toTup ?_ ?_); exact (by simp))
  | with_reducible refine w_lst ?_
  | with_reducible refine w_lc ?_
  | with_reducible refine w_for ?_
  | with_reducible refine w_range1 ?_
  | with_reducible refine w_range2 ?_
  | ((with_reducible refine w_dR1 ?_ ?_); (first | decide | omega))
  | ((with_reducible refine w_dR2 ?_ ?_); (first | decide | omega))
  | with_reducible refine w_iter ?_
  | with_reducible refine w_eq (iter1_tup _ _) ?_
  | with_reducible refine w_eq (iter1_str _ _) ?_
  | with_reducible refine w_sl ?_
  | with_reducible refine w_no ?_
  | with_reducible refine w_some ?_
  | with_reducible refine w_unI ?_
  | with_reducible refine w_meth ?_
  | with_reducible refine w_isi ?_
  | with_reducible refine w_zip ?_
  | with_reducible refine w_ifE ?_
  | with_reducible refine w_andV ?_
  | with_reducible refine w_orV ?_
  | with_reducible refine w_notV ?_
  | with_reducible refine w_andK ?_
  | with_reducible refine w_orK ?_
  | with_reducible refine w_notK ?_
  | with_reducible refine w_revL ?_
  | with_reducible refine w_listRg1 ?_
  | with_reducible refine w_tindex ?_
  | with_reducible refine w_setIx ?_
  | with_reducible refine w_un ?_
  | with_reducible refine w_rev1 ?_
  | with_reducible refine w_rev2 ?_
  | with_reducible refine w_chain ?_
  | with_reducible refine w_chK ?_
  | with_reducible refine w_retN ?_
  | with_reducible refine w_brk ?_
  | with_reducible refine w_cont ?_
  | with_reducible refine w_asgT ?_
  | with_reducible refine w_eq (isi_str_str _ _) ?_
  | with_reducible refine w_eq (isi_int_int _ _) ?_
  | with_reducible refine w_eq (isi_tup_tup _ _) ?_
  | with_reducible refine w_eq (isi_bool_int _ _) ?_
  | with_reducible refine w_eq (isi_str_int _ _) ?_
  | ((with_reducible refine w_lenLm (α := ?_) (f := ?_) (l := ?_) ?_ ?_); rotate_left; rotate_left; rotate_left; walk_at "gl")
  | ((with_reducible refine w_lenL (l := ?_) ?_ ?_); rotate_left; walk_at "gl")
  | ((with_reducible refine w_iterL (l := ?_) ?_ ?_); rotate_left; walk_at "gl"; dsimp only)
  | ((with_reducible refine w_tupL (l := ?_) ?_ ?_); rotate_left; walk_at "gl")
  | ((with_reducible refine w_ixT (d := ?_) ?_ ?_); rotate_left; (first | with_reducible assumption | rfl))
  | ((with_reducible refine w_ixL (l := ?_) (d := ?_) ?_ ?_ ?_); rotate_left; rotate_left; walk_at "gl"; (first | with_reducible assumption | rfl))
  | ((with_reducible refine w_addT ?_ ?_); walk_at "bd")
  | ((with_reducible refine ⟨?_, ?_⟩); (with_reducible (show isListD (.ref _) _ = true)); walk_at "il")
  | with_reducible refine w_tryK ?_
  | with_reducible refine w_raise ?_
  | with_reducible refine w_raise0 ?_
  | with_reducible refine w_isX ?_
  | ((with_reducible refine w_isXK (k := ?_) ?_ ?_); rotate_left; (first | with_reducible exact lkA | (apply lkB; decide +kernel; exact lkA) | (apply lkB; decide +kernel; apply lkB; decide +kernel; exact lkA) | (apply lkB; decide +kernel; apply lkB; decide +kernel; apply lkB; decide +kernel; exact lkA)))
  | with_reducible refine w_xf ?_
  | ((with_reducible refine w_xfK ?_ ?_ ?_); (exact List.mem_cons_self); (decide))
  | with_reducible refine w_eq (isN_xo _) ?_
  | with_reducible refine w_eq (dNeg_int _ _) ?_)
local macro_rules | `(tactic| walk_at "go") => `(tactic| (repeat (walk_at "w")); try dsimp only [List.set])
local macro_rules | `(tactic| walk_at "fn") => `(tactic| ((refine w_fun ?_); simp only [startD, List.map_cons, List.map_nil, List.reduceReplicate, Nat.reduceSub, List.cons_append, List.nil_append]; walk_at "go"))
section
open PySem L2

local macro_rules | `(tactic| walk_at "lk") => `(tactic| first | with_reducible exact lkA | (apply lkB; decide +kernel; walk_at "lk"))
local macro_rules | `(tactic| walk_at "mk") => `(tactic| first | with_reducible exact mkA | (apply mkB; decide +kernel; walk_at "mk"))
local macro_rules | `(tactic| walk_at "fk") => `(tactic| first | with_reducible exact fkA | exact fkN | (apply fkB; decide +kernel; walk_at "fk"))
local macro_rules | `(tactic| walk_at "cs") => `(tactic| first | exact List.mem_cons_self | (apply List.mem_cons_of_mem; walk_at "cs"))
local macro_rules | `(tactic| walk_at "w") => `(tactic| first
  | with_reducible refine w_fld ?_
  | ((with_reducible refine w_fldK (c := ?_) (fs := ?_) (v := ?_) ?_ ?_ ?_ ?_); rotate_left; rotate_left; rotate_left; (with_reducible assumption); (walk_at "cs"); (walk_at "fk"))
  | with_reducible refine w_setFld ?_
  | with_reducible refine w_new ?_
  | with_reducible refine w_methI ?_
  | ((with_reducible refine w_methK (c := ?_) (fs := ?_) (F := ?_) ?_ ?_ ?_ ?_); rotate_left; rotate_left; rotate_left; (with_reducible assumption); (walk_at "mk"); (walk_at "fk"))
  | with_reducible refine w_isC ?_
  | ((with_reducible refine w_isCK (c := ?_) (fs := ?_) (k := ?_) ?_ ?_ ?_); rotate_left; rotate_left; rotate_left; (with_reducible assumption); (walk_at "lk"))
  | with_reducible refine w_callD ?_
  | with_reducible refine w_mDSet ?_
  | with_reducible refine w_eq (nN_non _) ?_
  | with_reducible refine w_eq (nN_int _ _) ?_
  | with_reducible refine w_eq (nN_tup _ _) ?_
  | with_reducible refine w_eq (nN_ref _ _) ?_
  | with_reducible refine w_eq (iN_non _) ?_
  | with_reducible refine w_eq (iN_int _ _) ?_
  | with_reducible refine w_eq (iN_tup _ _) ?_
  | with_reducible refine w_eq (iN_ref _ _) ?_)
/-! ### each_is, for any two machines and any way to pair them -/
def eachX (pf : List D → MH → R D) : List D → MH → R D := mFun 4 15
 (mSeq (mIf (mB (mBin dNotIn (mVar 1) (mBin dIx (mVar 0) (mC (.int 0)))))
 (mRaise (Str.ofString "NoForm") (Str.ofString "form") (mVar 1))
 (mSkip))
 (mSeq (mIf (mB (mBin dNotIn (mVar 3) (mBin dIx (mVar 2) (mC (.int 0)))))
 (mRaise (Str.ofString "NoForm") (Str.ofString "form") (mVar 3))
 (mSkip))
 (mSeq (mAsgT (mgTup (mgCons (mgName 8) (mgCons (mgName 9) (mgCons (mgName 10) (mgCons (mgName 11) (mgNil)))))) (mCall pf (mCons (mVar 0) (mCons (mVar 2) (mNil)))))
 (mSeq (mAsg 4 (mLst (mNil)))
 (mSeq (mFor (mIter (mVar 11)) (mgTup (mgCons (mgName 12) (mgCons (mgName 13) (mgNil))))
 (mDrop (mMeth isListD dAppend (mVar 4) (mCons (mCall dInt (mCons (mAndV (mCall (m_has_form_255e2) (mCons (mVar 0) (mCons (mVar 12) (mCons (mVar 1) (mNil))))) (mNotV (mCall (m_has_form_255e2) (mCons (mVar 2) (mCons (mVar 13) (mCons (mVar 3) (mNil))))))) (mNil))) (mNil)))))
 (mSeq (mAsg 5 (mTup (mCons (mTup (mCons (mC (.str (Str.ofString "told"))) (mNil))) (mCons (mVar 8) (mCons (mVar 9) (mCons (mVar 10) (mCons (mCall dTuple (mCons (mVar 4) (mNil))) (mNil))))))))
 (mSeq (mAsg 6 (mCall (m_sizes_9dfee) (mCons (mVar 5) (mNil))))
 (mSeq (mAsg 7 (mLc (mRange1 (mCall dLen (mCons (mVar 11) (mNil)))) (mgName 14) (mYes) (mBin dAdd (mBin dIx (mVar 11) (mVar 14)) (mTup (mCons (mBin dIx (mVar 6) (mVar 14)) (mNil)))) [14]))
 (mRet (mTup (mCons (mCall (m_least_75c60) (mCons (mVar 5) (mCons (mC (.str (Str.ofString "told"))) (mNil)))) (mCons (mCall dSortQ (mCons (mVar 7) (mNil))) (mNil)))))))))))))
theorem each_49549 : m_each_is_49549 = eachX m_pairs_of_cf4b8 := rfl
theorem getD_ltE {α : Type} {l : List α} {d : α} {i : Nat} (h : i < l.length) : l.getD i d = l[i] := by rw [List.getD_eq_getElem?_getD, List.getElem?_eq_getElem h]; rfl
theorem k_hasformE {fs ns : List Str} {st : List Int} {sp : List (List Int)} {mk : List Int} {h : MH} {s j : Nat} {f : Str} (hs : s < mk.length) (hk : ∀ z ∈ mk, 0 ≤ z) (ej : fidx f fs = some j) : Sat (m_has_form_255e2 [gmD fs ns st sp mk, .int (s : Int), .str f] h) (fun d h' => h' = h ∧ d = .bl (bt (mk.getD s 0) j)) noX := by
  have am : atI (mk.map D.int) (s : Int) = some (.int (mk.getD s 0)) := atI_at (by
    rw [List.getElem?_map, List.getD_eq_getElem?_getD, List.getElem?_eq_getElem hs]
    rfl)
  have h0 : 0 ≤ mk.getD s 0 := by rw [getD_ltE hs]; exact hk _ (List.getElem_mem hs)
  walk_at "fn"
  unfold gmD
  walk_at "go"
  refine ⟨_, rfl, ?_⟩
  walk_at "go"
  refine w_tidx2 ej ?_
  refine w_shr ?_
  walk_at "go"
  refine ⟨rfl, ?_⟩
  rw [bt_div h0]
def rowsE (f : D → D → D) (F : List D) : List (List Int) := (List.range F.length).map fun p => (List.range F.length).map fun q => ((F.idxOf (f (atS F p) (atS F q)) : Nat) : Int)
theorem rowsE_eq (f : D → D → D) (F : List D) : rowsD f F = (rowsE f F).map fun r => D.tup (r.map .int) := by
  unfold rowsD rowsE
  rw [List.map_map]
  refine List.map_congr_left fun p _ => ?_
  show D.tup _ = D.tup _
  rw [List.map_map]
  rfl
theorem rowsE_nx {f : D → D → D} {F : List D} {i j : Nat} (hi : i < F.length) (hj : j < F.length) : nx (rowsE f F) i j = F.idxOf (f (atS F i) (atS F j)) := by
  have e1 : (rowsE f F).getD i [] = (List.range F.length).map fun q => ((F.idxOf (f (atS F i) (atS F q)) : Nat) : Int) := by
    unfold rowsE
    rw [getD_ltE (by simpa using hi), List.getElem_map, List.getElem_range]
  show (((rowsE f F).getD i []).getD j 0).toNat = _
  rw [e1, getD_ltE (by simpa using hj), List.getElem_map, List.getElem_range, Int.toNat_natCast]
theorem nmsP_ndE (n1 n2 : List Str) : (nmsP n1 n2).Nodup := (List.mergeSort_perm _ leS).nodup_iff.mpr (eraseDups_nodup _ _ (Nat.le_refl _))
theorem nmsP_memE {n1 n2 : List Str} {x : Str} : x ∈ nmsP n1 n2 ↔ x ∈ n1 ∨ x ∈ n2 := by
  unfold nmsP
  rw [sortS_mem, List.mem_eraseDups, List.mem_append]
def stE (n1 n2 : List Str) (s1 s2 : List Int) (F : List D) : List Int := (startsP n1 n2 s1 s2).map fun s => ((F.idxOf s : Nat) : Int)
abbrev spT (sp : List (List Int)) : List D := sp.map fun r => D.tup (r.map .int)
theorem tAt_nxE {sp : List (List Int)} (g : Rows sp) {p q : Nat} (hp : p < sp.length) (hq : q < sp.length) : tAt (spT sp) (p : Int) (q : Int) = ((nx sp p q : Nat) : Int) := by
  obtain ⟨h1, h2⟩ := g.row _ (List.getElem_mem hp)
  unfold tAt spT
  rw [Int.toNat_natCast, Int.toNat_natCast, List.getElem?_map, List.getElem?_eq_getElem hp]
  have hq' : q < (sp[p]).length := by rw [h1]; exact hq
  simp only [Option.map_some]
  rw [List.getElem?_map, List.getElem?_eq_getElem hq']
  have := h2 _ (List.getElem_mem hq')
  unfold nx
  rw [getD_ltE hp, getD_ltE hq']
  simp only [Option.map_some]
  omega
def pN (p q : Nat) : D := .tup [.int (p : Int), .int (q : Int)]
theorem pN_inj {p q r s : Nat} (h : pN p q = pN r s) : p = r ∧ q = s := by
  unfold pN at h
  injection h with h
  injection h with h1 h2
  injection h1 with h1
  injection h2 with h2 _
  injection h2 with h2
  exact ⟨by omega, by omega⟩
theorem inP_natE {m1 m2 : Nat} {x : D} (h : InP (m1 : Int) (m2 : Int) x) : ∃ p q : Nat, x = pN p q ∧ p < m1 ∧ q < m2 := by
  obtain ⟨a, b, rfl, ha, hb⟩ := h
  refine ⟨a.toNat, b.toNat, ?_, by omega, by omega⟩
  unfold pN
  rw [Int.toNat_of_nonneg ha.1, Int.toNat_of_nonneg hb.1]
theorem pair_nxE {sp1 sp2 : List (List Int)} (g1 : Rows sp1) (g2 : Rows sp2) {p q r s : Nat} (hp : p < sp1.length) (hq : q < sp2.length) (hr : r < sp1.length) (hs : s < sp2.length) : pairF (spT sp1) (spT sp2) (pN p q) (pN r s) = pN (nx sp1 p r) (nx sp2 q s) := by
  show D.tup [.int (tAt (spT sp1) p r), .int (tAt (spT sp2) q s)] = _
  rw [tAt_nxE g1 hp hr, tAt_nxE g2 hq hs]
  rfl
theorem comeE {f : D → D → D} {n1 n2 : List Str} {s1 s2 : List Int} {F : List D} (R : RunP f (startsP n1 n2 s1 s2) F) (nd : F.Nodup) {i : Nat} (hi : i < F.length) : Come (stE n1 n2 s1 s2 F) (rowsE f F) i := by
  obtain ⟨S0, r1, r2⟩ := R.run
  obtain ⟨a1, a2, a3, a4, a5, a6⟩ := pushAll_some r1
  have p0 := (runS_some r2).1
  have hcl := runS_closed r2 (a4 (by simp)) (by omega) (by omega) fun a b h => absurd h (by omega)
  have := runS_ok (f := f) (P := fun x => x ∈ F ∧ Come (stE n1 n2 s1 s2 F) (rowsE f F) (F.idxOf x)) (fun x y ⟨hx, cx⟩ ⟨hy, cy⟩ => by
    have lx := List.idxOf_lt_length_of_mem hx
    have ly := List.idxOf_lt_length_of_mem hy
    have ex : atS F (F.idxOf x) = x := by unfold atS; rw [getD_ltE lx, List.getElem_idxOf]
    have ey : atS F (F.idxOf y) = y := by unfold atS; rw [getD_ltE ly, List.getElem_idxOf]
    have h1 := hcl _ _ lx ly
    have h2 := Come.step cx cy
    rw [rowsE_nx lx ly, ex, ey] at h2
    rw [ex, ey] at h1
    exact ⟨h1, h2⟩) r2 (fun s hs => by
    rcases a6 s hs with z | z
    · cases z
    · refine ⟨p0.subset hs, .start ?_⟩
      unfold stE
      exact List.mem_map.mpr ⟨s, z, rfl⟩) F[i] (List.getElem_mem hi)
  rw [nd.idxOf_getElem i hi] at this
  exact this.2
/-- a machine, as each_is wants it -/
structure Me (fs ns : List Str) (st : List Int) (sp : List (List Int)) (mk : List Int) : Prop where
  row : Rows sp
  stl : st.length = ns.length + 1
  stv : ∀ z ∈ st, 0 ≤ z ∧ z < (sp.length : Int)
  mkl : mk.length = sp.length
  mkv : ∀ z ∈ mk, 0 ≤ z
  nn : ∀ x ∈ ns, Nm x
  hnl : ns.length ≤ 30
theorem Me.mc {fs ns : List Str} {st : List Int} {sp : List (List Int)} {mk : List Int} (g : Me fs ns st sp mk) : Mc ns st (spT sp) (sp.length : Int) :=
  ⟨g.stv, g.stl, by simp, fun r hr => by
    obtain ⟨l, hl, rfl⟩ := List.mem_map.mp hr
    obtain ⟨h1, h2⟩ := g.row.row l hl
    exact ⟨_, rfl, by simp [h1], fun d hd => by
      obtain ⟨z, hz, rfl⟩ := List.mem_map.mp hd
      exact ⟨z, rfl, h2 z hz⟩⟩⟩
/-- how pairs_of answers -/
def PfOk (pf : List D → MH → R D) (n1 n2 : List Str) (s1 s2 : List Int) (sp1 sp2 : List (List Int)) (d1 d2 : D) : Prop := ∀ h : MH, Sat (pf [d1, d2] h)
    (fun y h' => h <+: h' ∧ ∃ F, RunP (pairF (spT sp1) (spT sp2)) (startsP n1 n2 s1 s2) F ∧ y = .tup [.tup ((nmsP n1 n2).map .str), .tup ((startsP n1 n2 s1 s2).map (ixD F)), .tup (rowsD (pairF (spT sp1) (spT sp2)) F), .tup F] ∧ F.Nodup ∧ F.length ≤ 64 ∧ ∀ s ∈ F, InP (sp1.length : Int) (sp2.length : Int) s)
    (fun x fs h' => h <+: h' ∧ x = Str.ofString "TooMany" ∧ fs = [] ∧ NoRun (pairF (spT sp1) (spT sp2)) (startsP n1 n2 s1 s2))
theorem pf_41 {fs1 fs2 n1 n2 : List Str} {s1 s2 : List Int} {sp1 sp2 : List (List Int)} {k1 k2 : List Int} (g1 : Me fs1 n1 s1 sp1 k1) (g2 : Me fs2 n2 s2 sp2 k2) : PfOk m_pairs_of_cf4b8 n1 n2 s1 s2 sp1 sp2 (gmD fs1 n1 s1 sp1 k1) (gmD fs2 n2 s2 sp2 k2) := fun h => by
  have := g1.hnl
  have := g2.hnl
  exact k_pairsof g1.mc g2.mc (by omega) (by omega)
def mkX (k1 k2 : List Int) (j1 j2 : Nat) (x : Nat × Nat) : Int := if bt (k1.getD x.1 0) j1 && !bt (k2.getD x.2 0) j2 then 1 else 0
def trX (ps : List (Nat × Nat)) (t : Tb) : List (Int × Int × Int) := (List.range ps.length).map fun k => (((ps.getD k (0, 0)).1 : Int), ((ps.getD k (0, 0)).2 : Int), (szO t k : Int))
/-- what each_is tells -/
structure EaX (n1 n2 : List Str) (s1 s2 : List Int) (sp1 sp2 : List (List Int)) (k1 k2 : List Int) (j1 j2 : Nat) (F : List D) (ps : List (Nat × Nat)) (t : Tb) (x : D) : Prop where
  run : RunP (pairF (spT sp1) (spT sp2)) (startsP n1 n2 s1 s2) F
  nd : F.Nodup
  le : F.length ≤ 64
  eF : F = ps.map fun x => pN x.1 x.2
  inn : ∀ x ∈ ps, x.1 < sp1.length ∧ x.2 < sp2.length
  iv : SInv (stE n1 n2 s1 s2 F) (rowsE (pairF (spT sp1) (spT sp2)) F) t
  cl : closed (rowsE (pairF (spT sp1) (spT sp2)) F) t
  come : ∀ i, i < ps.length → ∃ z, t[i]? = some (some z)
  lst : Lst48 (nmsP n1 n2) (stE n1 n2 s1 s2 F) (rowsE (pairF (spT sp1) (spT sp2)) F) (ps.map (mkX k1 k2 j1 j2)) t 0 x
section
variable {fs1 fs2 n1 n2 : List Str} {s1 s2 : List Int} {sp1 sp2 : List (List Int)} {k1 k2 : List Int}
theorem k_eachX {pf : List D → MH → R D} {h : MH} (g1 : Me fs1 n1 s1 sp1 k1) (g2 : Me fs2 n2 s2 sp2 k2) (hpf : PfOk pf n1 n2 s1 s2 sp1 sp2 (gmD fs1 n1 s1 sp1 k1) (gmD fs2 n2 s2 sp2 k2)) {f f2 : Str} {j1 j2 : Nat} (ej : fidx f fs1 = some j1) (ej2 : fidx f2 fs2 = some j2) (hnn : n1.length + n2.length ≤ 25) :
    Sat (eachX pf [gmD fs1 n1 s1 sp1 k1, .str f, gmD fs2 n2 s2 sp2 k2, .str f2] h) (fun d h' => h <+: h' ∧ ∃ F ps t x jp, EaX n1 n2 s1 s2 sp1 sp2 k1 k2 j1 j2 F ps t x ∧ d = .tup [x, .ref jp] ∧ h.length ≤ jp ∧ h'[jp]? = some (.lst ((sortQ (trX ps t)).map triD)))
      (fun x fs h' => h <+: h' ∧ x = Str.ofString "TooMany" ∧ fs = [] ∧ NoRun (pairF (spT sp1) (spT sp2)) (startsP n1 n2 s1 s2)) := by
  have hf : f ∈ fs1 := List.mem_of_getElem? (fidx_some ej).1
  have hf2 : f2 ∈ fs2 := List.mem_of_getElem? (fidx_some ej2).1
  have hpf := hpf h
  unfold gmD at hpf ⊢
  unfold eachX
  walk_at "fn"
  refine w_ninTs ?_
  rw [decide_eq_true hf]
  walk_at "go"
  refine w_ninTs ?_
  rw [decide_eq_true hf2]
  walk_at "go"
  refine hpf.monoE ?_ ?_
  rotate_left
  · rintro x fs' h' ⟨z1, rfl, rfl, hr⟩
    exact ⟨z1, rfl, rfl, hr⟩
  rintro d h1 ⟨p1, F, R, rfl, nd, le, hF⟩
  refine ⟨_, rfl, ?_⟩
  dsimp only [List.set]
  have hps : ∃ ps : List (Nat × Nat), F = ps.map (fun x => pN x.1 x.2) ∧ ∀ x ∈ ps, x.1 < sp1.length ∧ x.2 < sp2.length := by
    have : ∀ F : List D, (∀ s ∈ F, InP (sp1.length : Int) (sp2.length : Int) s) → ∃ ps : List (Nat × Nat), F = ps.map (fun x => pN x.1 x.2) ∧ ∀ x ∈ ps, x.1 < sp1.length ∧ x.2 < sp2.length := by
      intro F
      induction F with
      | nil => exact fun _ => ⟨[], rfl, fun x hx => by cases hx⟩
      | cons a F ih =>
        intro h
        obtain ⟨p, q, e, hp, hq⟩ := inP_natE (h a List.mem_cons_self)
        obtain ⟨ps, e2, h2⟩ := ih fun s hs => h s (List.mem_cons_of_mem _ hs)
        refine ⟨(p, q) :: ps, by rw [e, e2]; rfl, fun x hx => ?_⟩
        rcases List.mem_cons.mp hx with rfl | z
        · exact ⟨hp, hq⟩
        · exact h2 x z
    exact this F hF
  obtain ⟨ps, eF, hps⟩ := hps
  have kl1 := g1.mkl
  have kl2 := g2.mkl
  have hpl : ps.length = F.length := by rw [eF]; simp
  walk_at "go"
  refine o_new (Own.nil h1) (by simp) fun jm h2 o2 => ?_
  walk_at "go"
  generalize ef : pairF (spT sp1) (spT sp2) = f0 at *
  refine w_loop0 (fun k ρ h' => ∃ (o12 o13 : Option D), ρ = [some (gmD fs1 n1 s1 sp1 k1), some (.str f), some (gmD fs2 n2 s2 sp2 k2), some (.str f2), some (.ref jm), none, none, none, some (.tup ((nmsP n1 n2).map .str)), some (.tup ((startsP n1 n2 s1 s2).map (ixD F))), some (.tup (rowsD f0 F)), some (.tup F), o12, o13, none] ∧ Own h1 h' [(jm, ((ps.take k).map (mkX k1 k2 j1 j2)).map .int)]) ⟨none, none, rfl, o2⟩ (fun _ _ _ _ => rfl) ?_ ?_
  · rintro k d ρ h3 hd ⟨o12, o13, rfl, o3⟩
    rw [eF, List.getElem?_map, Option.map_eq_some_iff] at hd
    obtain ⟨x, ex, rfl⟩ := hd
    obtain ⟨hx1, hx2⟩ := hps x (List.mem_of_getElem? ex)
    have hk := (List.getElem?_eq_some_iff.mp ex).1
    refine ⟨_, rfl, ?_⟩
    dsimp only [List.set]
    have app : ∀ b : Bool, b = (bt (k1.getD x.1 0) j1 && !bt (k2.getD x.2 0) j2) → ∀ h', Own h1 h' [(jm, ((ps.take k).map (mkX k1 k2 j1 j2)).map .int ++ [.int (if b then 1 else 0)])] → Own h1 h' [(jm, ((ps.take (k + 1)).map (mkX k1 k2 j1 j2)).map .int)] := fun b eb h' o => by
      rw [take_snoc ex, List.map_append, List.map_append]
      have e : mkX k1 k2 j1 j2 x = if b then 1 else 0 := by unfold mkX; rw [eb]
      show Own h1 h' [(jm, _ ++ [D.int (mkX k1 k2 j1 j2 x)])]
      rw [e]
      exact o
    have hlen : (((ps.take k).map (mkX k1 k2 j1 j2)).map D.int).length < 1000000 := by simp; omega
    walk_at "go"
    refine (k_hasformE (by omega) g1.mkv ej).mono ?_
    rintro d h4 ⟨rfl, rfl⟩
    cases e1 : bt (k1.getD x.1 0) j1 with
    | false =>
      walk_at "go"
      refine w_eq (dInt_bl _ _) ?_
      walk_at "go"
      refine o_app o3 0 rfl hlen fun h5 o5 => ?_
      exact ⟨_, _, rfl, app false (by rw [e1]; rfl) _ o5⟩
    | true =>
      walk_at "go"
      refine (k_hasformE (by omega) g2.mkv ej2).mono ?_
      rintro d h5 ⟨rfl, rfl⟩
      cases e2 : bt (k2.getD x.2 0) j2 with
      | false =>
        walk_at "go"
        refine w_eq (dInt_bl _ _) ?_
        walk_at "go"
        refine o_app o3 0 rfl hlen fun h5 o5 => ?_
        exact ⟨_, _, rfl, app (!false) (by rw [e1, e2]; rfl) _ o5⟩
      | true =>
        walk_at "go"
        refine w_eq (dInt_bl _ _) ?_
        walk_at "go"
        refine o_app o3 0 rfl hlen fun h5 o5 => ?_
        exact ⟨_, _, rfl, app (!true) (by rw [e1, e2]; rfl) _ o5⟩
  rintro ρ h3 ⟨o12, o13, rfl, o3⟩
  rw [List.take_of_length_le (by omega)] at o3
  have gm3 := o3.atL 0 rfl
  have e8 : (startsP n1 n2 s1 s2).map (ixD F) = (stE n1 n2 s1 s2 F).map .int := by
    unfold stE
    rw [List.map_map]
    rfl
  rw [e8, rowsE_eq]
  walk_at "go"
  have hrl : (rowsE f0 F).length = F.length := by unfold rowsE; simp
  obtain ⟨S0, r1, r2⟩ := R.run
  have aps := pushAll_some r1
  have p0 := (runS_some r2).1
  have hcl := runS_closed r2 (aps.2.2.2.1 (by simp)) (by omega) (by omega) fun a b h => absurd h (by omega)
  have G : G47 (nmsP n1 n2) (stE n1 n2 s1 s2 F) (rowsE f0 F) (ps.map (mkX k1 k2 j1 j2)) := by
    refine ⟨⟨fun r hr => ?_⟩, by omega, fun z hz => ?_, by rw [List.length_map, hpl, hrl], ?_, nmsP_ndE _ _, fun x hx => ?_, ?_⟩
    · unfold rowsE at hr
      obtain ⟨i, hi, rfl⟩ := List.mem_map.mp hr
      rw [List.mem_range] at hi
      refine ⟨by rw [hrl]; simp, fun z hz => ?_⟩
      obtain ⟨l, hl, rfl⟩ := List.mem_map.mp hz
      rw [List.mem_range] at hl
      have := List.idxOf_lt_length_of_mem (hcl i l hi hl)
      omega
    · unfold stE at hz
      obtain ⟨s, hs, rfl⟩ := List.mem_map.mp hz
      have := List.idxOf_lt_length_of_mem (p0.subset (aps.2.1 s hs))
      omega
    · unfold stE startsP; simp
    · rcases nmsP_memE.mp hx with z | z
      · exact g1.nn x z
      · exact g2.nn x z
    · unfold nmsP
      rw [sortS_len]
      have := dups_le (l := n1 ++ n2)
      rw [List.length_append] at this
      omega
  refine (cc_sizes45 (fs := [Str.ofString "told"]) (ns := nmsP n1 n2) G.gr G.hn G.hst G.hmk).mono ?_
  rintro d h4 ⟨p4, t, rfl, iv, hc⟩
  have hcome : ∀ i, i < F.length → ∃ z, t[i]? = some (some z) := fun i hi => (iv.come hc i).mpr (comeE R nd hi)
  walk_at "go"
  refine o_comp (fun k y => y = triD (((ps.getD k (0, 0)).1 : Int), ((ps.getD k (0, 0)).2 : Int), (szO t k : Int))) (Own.nil h4) (by rw [rangeD_length]; omega) (fun _ _ => rfl) ?_ ?_
  · intro k d h5 hd hp5
    obtain ⟨hk, rfl⟩ := rangeD_get hd
    have hk' : k < F.length := by simpa using hk
    rw [show (0 : Int) + (k : Int) = (k : Int) by omega]
    obtain ⟨z, ez⟩ := hcome k hk'
    obtain ⟨x, ex⟩ : ∃ x, ps[k]? = some x := ⟨_, List.getElem?_eq_getElem (by omega)⟩
    have exD : ps.getD k (0, 0) = x := by rw [List.getD_eq_getElem?_getD, ex]; rfl
    have a1 : atI F (k : Int) = some (pN x.1 x.2) := atI_at (by
      rw [eF, List.getElem?_map, ex]
      rfl)
    have a2 : atI (t.map oD) (k : Int) = some (.int (z : Int)) := atI_at (by rw [List.getElem?_map, ez]; rfl)
    unfold pN at a1
    refine ⟨_, rfl, ?_⟩
    dsimp only [wipeD, List.set]
    walk_at "go"
    refine w_addT (by simp) ?_
    exact ⟨rfl, by rw [exD, szO_of ez]; rfl⟩
  intro ys hy hys jp h5 o5
  have hyl : ys = (trX ps t).map triD := by
    have := maps_of (f := fun k => triD (((ps.getD k (0, 0)).1 : Int), ((ps.getD k (0, 0)).2 : Int), (szO t k : Int))) (n := ps.length) (by rw [hy, rangeD_length]; omega) hys
    rw [this]
    unfold trX
    rw [List.map_map]
    rfl
  subst hyl
  have gp5 := o5.atL 0 rfl
  walk_at "go"
  have hm0 : ∀ z ∈ ps.map (mkX k1 k2 j1 j2), 0 ≤ z := fun z hz => by
    obtain ⟨x, _, rfl⟩ := List.mem_map.mp hz
    unfold mkX
    split <;> omega
  refine (k_least48 (fs := [Str.ofString "told"]) G hm0 (by simp) iv hc).monoE ?_ ?_
  rotate_left
  · rintro x fs' h' ⟨_, _, _, hn⟩
    exact (hn List.mem_cons_self).elim
  rintro d h6 ⟨p6, j6, ej6, L⟩
  have j60 : j6 = 0 := by have := fidx_lt2 ej6; simp at this; omega
  subst j60
  have gp6 := pre_getL p6 gp5
  walk_at "go"
  refine w_sortQ gp6 ?_
  walk_at "go"
  have pp := (((p1.trans o3.pre).trans p4).trans o5.pre).trans p6
  have := pp.length_le
  exact ⟨pp.trans (List.prefix_append _ _), F, ps, t, d, h6.length, ⟨ef ▸ R, nd, le, eF, hps, ef ▸ iv, ef ▸ hc, fun i hi => hcome i (by omega), ef ▸ L⟩, rfl, by omega, by simp⟩
/-- a form that isn't told -/
theorem k_eachNo {pf : List D → MH → R D} {h : MH} {f f2 : Str} (hn : f ∉ fs1 ∨ f2 ∉ fs2) :
    Sat (eachX pf [gmD fs1 n1 s1 sp1 k1, .str f, gmD fs2 n2 s2 sp2 k2, .str f2] h) (fun _ _ => False)
      (fun x fs h' => h' = h ∧ x = Str.ofString "NoForm" ∧ fs = [(Str.ofString "form", .str (if f ∈ fs1 then f2 else f))]) := by
  unfold gmD eachX
  walk_at "fn"
  refine w_ninTs ?_
  by_cases hf : f ∈ fs1
  · rw [decide_eq_true hf]
    have hf2 : f2 ∉ fs2 := hn.elim (fun z => absurd hf z) id
    walk_at "go"
    refine w_ninTs ?_
    rw [decide_eq_false hf2]
    walk_at "go"
    exact ⟨rfl, rfl, by rw [if_pos hf]⟩
  · rw [decide_eq_false hf]
    walk_at "go"
    exact ⟨rfl, rfl, by rw [if_neg hf]⟩
end
end
section
open PySem L2
end
section
open PySem L2
end
section
open PySem L2
/-! items, plain -/
inductive It where
  | hole
  | nd (x : Str) (l : List It)
abbrev star : Str := Str.ofString "*"
mutual
def It.toD : It → D
  | .hole => .str star
  | .nd x l => .tup [.str x, .tup (It.toDs l)]
def It.toDs : List It → List D
  | [] => []
  | i :: l => i.toD :: It.toDs l
end
mutual
def It.sz (s : Int) : It → Int
  | .hole => s
  | .nd _ l => 1 + It.szs s l
def It.szs (s : Int) : List It → Int
  | [] => 0
  | i :: l => i.sz s + It.szs s l
end
mutual
def It.fl (row : List Doc) : It → List Doc
  | .hole => row
  | .nd x l => [.mk x (It.fls row l)]
def It.fls (row : List Doc) : List It → List Doc
  | [] => []
  | i :: l => i.fl row ++ It.fls row l
end
mutual
def It.hh : It → Bool
  | .hole => true
  | .nd _ l => It.hhs l
def It.hhs : List It → Bool
  | [] => false
  | i :: l => i.hh || It.hhs l
end
mutual
def It.dp : It → Nat
  | .hole => 0
  | .nd _ l => 1 + It.dps l
def It.dps : List It → Nat
  | [] => 0
  | i :: l => max i.dp (It.dps l)
end
mutual
def Doc.ht : Doc → Nat
  | .mk _ l => 1 + Doc.hts l
def Doc.hts : List Doc → Nat
  | [] => 0
  | d :: l => max d.ht (Doc.hts l)
end
mutual
def Doc.ds : Doc → Int
  | .mk _ l => 1 + Doc.dss l
def Doc.dss : List Doc → Int
  | [] => 0
  | d :: l => d.ds + Doc.dss l
end
def Doc.fit : Nat → Doc → Prop
  | 0, _ => False
  | n + 1, .mk _ l => l.length ≤ 5000 ∧ ∀ k ∈ l, k.fit n
/-! turners -/
abbrev TRl := List (Str × List It)
def look : TRl → Str → Option (List It)
  | [], _ => none
  | (y, its) :: r, x => if y = x then some its else look r x
mutual
def tsz (rl : TRl) : Doc → Int
  | .mk x l => match look rl x with
    | none => 1 + tszs rl l
    | some its => It.szs (tszs rl l) its
def tszs (rl : TRl) : List Doc → Int
  | [] => 0
  | d :: l => tsz rl d + tszs rl l
end
mutual
def trw (rl : TRl) : Doc → List Doc
  | .mk x l => match look rl x with
    | none => [.mk x (trws rl l)]
    | some its => It.fls (trws rl l) its
def trws (rl : TRl) : List Doc → List Doc
  | [] => []
  | d :: l => trw rl d ++ trws rl l
end
def RlD (rl : TRl) (w : Nat) : Prop := ∀ p ∈ rl, It.dps p.2 ≤ w
end
section
open PySem L2

def W4 (n : Nat) (x : Str) : Prop := Wd n x ∧ 42 ∉ x.cps.toList
theorem W4.app {a b : Nat} {x y : Str} (hx : W4 a x) (hy : W4 b y) : W4 (a + b) (x ++ y) := ⟨hx.1.app hy.1, fun h => by
  rw [app_cps] at h
  rcases List.mem_append.mp h with h | h
  · exact hx.2 h
  · exact hy.2 h⟩
theorem W4.le {a b : Nat} {x : Str} (hx : W4 a x) (h : a ≤ b) : W4 b x := ⟨hx.1.le h, hx.2⟩
theorem W4.join {ys : List Str} (h : ∀ y ∈ ys, W4 1 y) : W4 ys.length (Txt.join (Str.ofString "") ys) := ⟨Wd.join fun y hy => (h y hy).1, fun hc => by
  rw [join_cps] at hc
  obtain ⟨l, hl, hc⟩ := List.mem_flatten.mp hc
  obtain ⟨y, hy, rfl⟩ := List.mem_map.mp hl
  exact (h y hy).2 hc⟩
def W4s (n : Nat) (l : List D) : Prop := ∃ ns : List Str, l = ns.map .str ∧ ∀ x ∈ ns, W4 n x
theorem W4s.app {n : Nat} {l m : List D} (hl : W4s n l) (hm : W4s n m) : W4s n (l ++ m) := by
  obtain ⟨a, rfl, ha⟩ := hl
  obtain ⟨b, rfl, hb⟩ := hm
  refine ⟨a ++ b, by simp, fun x hx => ?_⟩
  rcases List.mem_append.mp hx with h | h
  · exact ha x h
  · exact hb x h
theorem W4s.one {n : Nat} {x : Str} (h : W4 n x) : W4s n [.str x] := ⟨[x], rfl, fun y hy => by rw [List.mem_singleton.mp hy]; exact h⟩
theorem W4s.wd {n : Nat} {l : List D} (h : W4s n l) : Wds n l := by
  obtain ⟨a, e, ha⟩ := h
  exact ⟨a, e, fun x hx => (ha x hx).1⟩
/-! items drawn -/
def NamOk (x : Str) : Prop := OkS x ∧ x ≠ star
def It.ok : Nat → It → Prop
  | _, .hole => True
  | 0, .nd _ _ => False
  | n + 1, .nd x l => NamOk x ∧ l.length ≤ 3 ∧ ∀ i ∈ l, i.ok n
end
section
open PySem L2
/-! turners drawn -/
def rD (p : Str × List It) : D := .tup [.str p.1, .tup (p.2.map It.toD)]
structure ROk (rl : TRl) (w : Nat) : Prop where
  len : rl.length ≤ 20
  nm : ∀ p ∈ rl, NamOk p.1
  its : ∀ p ∈ rl, p.2.length ≤ 100 ∧ ∀ it ∈ p.2, it.ok w
end
section
open PySem L2

/-! equal values -/
def PyM (n k : Nat) (h : MH) (d : D) : Prop := ∃ e, pyOf n h d = some e ∧ PyData.canLay0 e = true ∧ PyData.depth e ≤ k
theorem pyM_all {n k : Nat} {h : MH} : ∀ {l : List D}, (∀ x ∈ l, PyM n k h x) → ∃ es, allSome (l.map (pyOf n h)) = some es ∧ PyData.canLayAll0 es = true ∧ PyData.depthAll es ≤ k
  | [], _ => ⟨[], rfl, rfl, Nat.zero_le _⟩
  | x :: l, hx => by
    obtain ⟨e, e1, e2, e3⟩ := hx x List.mem_cons_self
    obtain ⟨es, f1, f2, f3⟩ := pyM_all (l := l) fun y hy => hx y (List.mem_cons_of_mem _ hy)
    refine ⟨e :: es, ?_, ?_, ?_⟩
    · rw [List.map_cons, e1, allSome, f1]; rfl
    · rw [PyData.canLayAll0, e2, f2]; rfl
    · rw [PyData.depthAll]; omega
theorem PyM.tup {n k : Nat} {h : MH} {l : List D} (hl : ∀ x ∈ l, PyM n k h x) : PyM (n + 1) (k + 1) h (.tup l) := by
  obtain ⟨es, f1, f2, f3⟩ := pyM_all hl
  exact ⟨.tuple es, by rw [pyOf, f1]; rfl, by rw [PyData.canLay0]; exact f2, by rw [PyData.depth]; omega⟩
theorem PyM.mono {n k m : Nat} {h : MH} {d : D} (p : PyM n k h d) (q : k ≤ m) : PyM n m h d := by
  obtain ⟨e, e1, e2, e3⟩ := p
  exact ⟨e, e1, e2, by omega⟩
/-! what the rules tell -/
section
variable {rl : TRl} {h : MH}
end
end
section
open PySem L2
/-! the program's turning -/
section
variable {rl : TRl} (hr : ROk rl 4)
include hr
end
end
section
open PySem L2
abbrev okT (h : MH) : D → MH → Prop := fun r h' => h <+: h' ∧ r = .bl true
section
variable {rl : TRl} (hr : ROk rl 4)
include hr
end
end
section
open PySem L2

section
variable (nl : List Str) (sv : List Int) (T : List D)
mutual
def dst : Doc → Int
  | .mk x l => (dsts l).foldl (tAt T) (startI nl sv x)
def dsts : List Doc → List Int
  | [] => []
  | d :: l => dst d :: dsts l
end
def lastOf : List Int → Int
  | [] => -1
  | [v] => v
  | _ => -2
def wy (m : Nat) (vs : List Int) : List Int := ((List.range m).map fun (s : Nat) => vs.foldl (tAt T) (s : Int)) ++ [lastOf vs]
mutual
def iv1 (vs : List Int) : It → List Int
  | .hole => vs
  | .nd x l => [(ivs vs l).foldl (tAt T) (startI nl sv x)]
def ivs (vs : List Int) : List It → List Int
  | [] => []
  | i :: l => iv1 vs i ++ ivs vs l
end
end
section
variable {F0 K0 : D} {nl : List Str} {sv : List Int} {T : List D} {m : Int} {h : MH} (M : Mc nl sv T m)
include M
def InS (m : Int) (vs : List Int) : Prop := ∀ v ∈ vs, 0 ≤ v ∧ v < m
end
end
section
open PySem L2
/-! documents held by two machines: the pair of their states, its least size; the documents that makings make -/
abbrev dsN (ns : List Str) (st : List Int) (sp : List (List Int)) (d : Doc) : Nat := (dst ns st (spT sp) d).toNat
section
variable {fs1 fs2 n1 n2 : List Str} {s1 s2 : List Int} {sp1 sp2 : List (List Int)} {k1 k2 : List Int} {j1 j2 : Nat} {F : List D} {ps : List (Nat × Nat)} {t : Tb} {x : D}
theorem atF_idx {F : List D} {y : D} (h : y ∈ F) : F.idxOf y < F.length ∧ atS F (F.idxOf y) = y := by
  have lt := List.idxOf_lt_length_of_mem h
  refine ⟨lt, ?_⟩
  unfold atS
  rw [getD_ltE lt, List.getElem_idxOf]
theorem runP_clE {f : D → D → D} {st F : List D} (R : RunP f st F) : (∀ s ∈ st, s ∈ F) ∧ ∀ a ∈ F, ∀ b ∈ F, f a b ∈ F := by
  obtain ⟨S0, e1, e2⟩ := R.run
  obtain ⟨a1, a2, a3, a4, _⟩ := pushAll_some e1
  have l0 := a4 (by simp)
  have hc := runS_closed e2 l0 (by omega) (Nat.zero_le _) (fun a b h _ => absurd h (by omega))
  have p0 := (runS_some e2).1
  refine ⟨fun s hs => p0.subset (a2 s hs), fun a ha b hb => ?_⟩
  have := hc _ _ (atF_idx ha).1 (atF_idx hb).1
  rwa [(atF_idx ha).2, (atF_idx hb).2] at this
variable (E : EaX n1 n2 s1 s2 sp1 sp2 k1 k2 j1 j2 F ps t x) (g1 : Me fs1 n1 s1 sp1 k1) (g2 : Me fs2 n2 s2 sp2 k2)
include g1 g2
include E
end
end
section
open PySem L2
/-! ### the law's run: no bound within a row -/
def pushU (S : List D) (x : D) : List D := if x ∈ S then S else S ++ [x]
def pushUs (xs S : List D) : List D := xs.foldl pushU S
noncomputable def runU (f : D → D → D) : Nat → List D → Nat → List D
  | 0, S, _ => S
  | n + 1, S, p => if p < S.length ∧ S.length ≤ 64 then runU f n (pushUs (rowEv f S p (p + 1)) S) (p + 1) else S
theorem pushU_ok (S : List D) (x : D) : S <+: pushU S x ∧ x ∈ pushU S x ∧ (S.Nodup → (pushU S x).Nodup) ∧ (pushU S x).length ≤ S.length + 1 ∧ ∀ s ∈ pushU S x, s ∈ S ∨ s = x := by
  unfold pushU
  split
  · rename_i z
    exact ⟨List.prefix_rfl, z, id, by omega, fun s hs => .inl hs⟩
  · rename_i z
    refine ⟨List.prefix_append _ _, by simp, fun n => ?_, by simp, fun s hs => by simpa using hs⟩
    rw [List.nodup_append]
    exact ⟨n, by simp, fun a ha b hb e => by simp at hb; subst hb; subst e; exact z ha⟩
theorem pushUs_ok : ∀ (xs S : List D), S <+: pushUs xs S ∧ (∀ x ∈ xs, x ∈ pushUs xs S) ∧ (S.Nodup → (pushUs xs S).Nodup) ∧ (pushUs xs S).length ≤ S.length + xs.length ∧ ∀ s ∈ pushUs xs S, s ∈ S ∨ s ∈ xs
  | [], S => ⟨List.prefix_rfl, by simp, id, by simp [pushUs], fun s hs => .inl hs⟩
  | x :: xs, S => by
    obtain ⟨a1, a2, a3, a4, a5⟩ := pushU_ok S x
    obtain ⟨b1, b2, b3, b4, b5⟩ := pushUs_ok xs (pushU S x)
    refine ⟨a1.trans b1, fun y hy => ?_, fun n => b3 (a3 n), ?_, fun s hs => ?_⟩
    · rcases List.mem_cons.mp hy with rfl | hy
      · exact b1.subset a2
      · exact b2 y hy
    · show (pushUs xs (pushU S x)).length ≤ _
      simp; omega
    · rcases b5 s hs with z | z
      · rcases a5 s z with w | rfl
        · exact .inl w
        · exact .inr List.mem_cons_self
      · exact .inr (List.mem_cons_of_mem _ z)
theorem push_su {S S' : List D} {x : D} (h : pushS S x = some S') : pushU S x = S' := by
  unfold pushS at h
  unfold pushU
  split at h
  · rename_i z; cases h; rw [if_pos z]
  · rename_i z
    rw [if_neg z]
    split at h
    · cases h
    · cases h; rfl
theorem pushs_su : ∀ {xs S S' : List D}, pushAll xs S = some S' → pushUs xs S = S'
  | [], S, S', h => by cases h; rfl
  | x :: xs, S, S', h => by
    have h : (pushS S x).bind (pushAll xs) = some S' := h
    rw [Option.bind_eq_some_iff] at h
    obtain ⟨S1, h1, h2⟩ := h
    show pushUs xs (pushU S x) = S'
    rw [push_su h1]
    exact pushs_su h2
theorem pushs_none : ∀ {xs S : List D}, pushAll xs S = none → S.length ≤ 64 → 64 < (pushUs xs S).length
  | [], S, h, _ => by cases h
  | x :: xs, S, h, hl => by
    have h : (pushS S x).bind (pushAll xs) = none := h
    show 64 < (pushUs xs (pushU S x)).length
    cases e : pushS S x with
    | none =>
      have := (pushUs_ok xs (pushU S x)).1.length_le
      unfold pushS at e
      split at e
      · cases e
      · rename_i z
        split at e
        · unfold pushU at this ⊢
          rw [if_neg z] at this ⊢
          simp at this
          omega
        · cases e
    | some S1 =>
      rw [e, Option.bind_some] at h
      rw [push_su e]
      exact pushs_none h ((pushS_some e).2.2.2.1 hl)
theorem runU_pre (f : D → D → D) : ∀ (n : Nat) (S : List D) (p : Nat), S <+: runU f n S p
  | 0, S, p => List.prefix_rfl
  | n + 1, S, p => by
    rw [runU]
    split
    · exact (pushUs_ok _ S).1.trans (runU_pre f n _ _)
    · exact List.prefix_rfl
theorem runU_none {f : D → D → D} : ∀ {n : Nat} {S : List D} {p : Nat}, runS f n S p = none → S.length ≤ 64 → 64 < (runU f n S p).length
  | 0, S, p, h, _ => by cases h
  | n + 1, S, p, h, hl => by
    rw [runS] at h
    rw [runU]
    split at h
    · rename_i lt
      rw [if_pos ⟨lt, hl⟩]
      cases e : pushAll (rowEv f S p (p + 1)) S with
      | none =>
        have a := pushs_none e hl
        have b := (runU_pre f n (pushUs (rowEv f S p (p + 1)) S) (p + 1)).length_le
        omega
      | some S1 =>
        rw [e, Option.bind_some] at h
        rw [pushs_su e]
        exact runU_none h ((pushAll_some e).2.2.2.1 hl)
    · cases h
theorem runU_ok {f : D → D → D} {P : D → Prop} (hf : ∀ x y, P x → P y → P (f x y)) : ∀ {n : Nat} {S : List D} {p : Nat}, (∀ s ∈ S, P s) → ∀ s ∈ runU f n S p, P s
  | 0, S, p, hp => hp
  | n + 1, S, p, hp => by
    rw [runU]
    split
    · rename_i lt
      refine runU_ok hf fun s hs => ?_
      rcases (pushUs_ok _ S).2.2.2.2 s hs with z | z
      · exact hp s z
      · unfold rowEv at z
        rw [List.mem_flatMap] at z
        obtain ⟨k, hk, z⟩ := z
        have hk : k < p + 1 := by simpa using hk
        have p1 := hp _ (atS_mem lt.1)
        have p2 := hp _ (atS_mem (S := S) (i := k) (by omega))
        unfold ev2 at z
        simp at z
        rcases z with rfl | rfl
        · exact hf _ _ p1 p2
        · exact hf _ _ p2 p1
    · exact hp
end
section
open PySem L2
/-! sorted lists of triples -/
def leQ (p q : Int × Int × Int) : Bool := decide (p.1 < q.1 ∨ (p.1 = q.1 ∧ (p.2.1 < q.2.1 ∨ (p.2.1 = q.2.1 ∧ p.2.2 ≤ q.2.2))))
theorem dataLt_iii (x y z x' y' z' : Int) : PySem.W.dataLt (.tuple [.int x, .int y, .int z]) (.tuple [.int x', .int y', .int z']) = decide (x < x' ∨ (x = x' ∧ (y < y' ∨ (y = y' ∧ z < z')))) := by
  rw [PySem.W.dataLt_tuple, PySem.W.dataLt_cons (by simp [PySem.W.alike]), PySem.W.dataLt_cons (by simp [PySem.W.alike]), PySem.W.dataLt_cons (by simp [PySem.W.alike])]
  have e : PyProof.Rows.lexLt PyProof.Rows.itemOrd (PySem.W.keyToksAll []) (PySem.W.keyToksAll []) = false := PyProof.Rows.lex_irrefl _
  rw [e, PySem.W.dataLt_int, PySem.W.dataLt_int, PySem.W.dataLt_int]
  simp only [PyData.eqv, beq_iff_eq]
  by_cases h1 : x = x' <;> by_cases h2 : y = y' <;> by_cases h3 : z = z' <;> simp [h1, h2, h3]
theorem leQ_data : PySem.W.dataLe false encQ = leQ := by
  funext p q
  show (!PySem.W.dataLt (.tuple [.int q.1, .int q.2.1, .int q.2.2]) (.tuple [.int p.1, .int p.2.1, .int p.2.2])) = _
  rw [dataLt_iii]
  unfold leQ
  by_cases h : q.1 < p.1 ∨ (q.1 = p.1 ∧ (q.2.1 < p.2.1 ∨ (q.2.1 = p.2.1 ∧ q.2.2 < p.2.2)))
  · rw [decide_eq_true h, decide_eq_false (by omega)]; rfl
  · rw [decide_eq_false h, decide_eq_true (by omega)]; rfl
theorem sortQ_perm {l m : List (Int × Int × Int)} (h : l.Perm m) : sortQ l = sortQ m := by
  unfold sortQ
  rw [leQ_data]
  have tr : ∀ a b c : Int × Int × Int, leQ a b = true → leQ b c = true → leQ a c = true := fun a b c h1 h2 => by
    unfold leQ at *
    rw [decide_eq_true_eq] at *
    omega
  have tt : ∀ a b : Int × Int × Int, (leQ a b || leQ b a) = true := fun a b => by
    unfold leQ
    rw [Bool.or_eq_true, decide_eq_true_eq, decide_eq_true_eq]
    omega
  refine List.Perm.eq_of_pairwise (le := fun a b => leQ a b = true) (fun a b _ _ h1 h2 => ?_) (List.pairwise_mergeSort tr tt _) (List.pairwise_mergeSort tr tt _) (((List.mergeSort_perm _ _).trans h).trans (List.mergeSort_perm _ _).symm)
  unfold leQ at h1 h2
  rw [decide_eq_true_eq] at h1 h2
  obtain ⟨a1, a2, a3⟩ := a
  obtain ⟨b1, b2, b3⟩ := b
  simp only at h1 h2
  have e1 : a1 = b1 := by omega
  have e2 : a2 = b2 := by omega
  have e3 : a3 = b3 := by omega
  rw [e1, e2, e3]
/-! counters -/
def cntr (a : Nat) : List (List Int) := (List.range a).map fun p => (List.range a).map fun _ => (((p + 1) % a : Nat) : Int)
theorem cntr_len (a : Nat) : (cntr a).length = a := by unfold cntr; simp
theorem cntr_nx {a p q : Nat} (hp : p < a) (hq : q < a) : nx (cntr a) p q = (p + 1) % a := by
  have e1 : (cntr a).getD p [] = (List.range a).map fun _ => (((p + 1) % a : Nat) : Int) := by
    unfold cntr
    rw [getD_ltE (by simpa using hp), List.getElem_map, List.getElem_range]
  show (((cntr a).getD p []).getD q 0).toNat = _
  rw [e1, getD_ltE (by simpa using hq), List.getElem_map, Int.toNat_natCast]
theorem cntr_rows {a : Nat} : Rows (cntr a) := ⟨fun r hr => by
  rw [cntr_len]
  unfold cntr at hr
  obtain ⟨p, hp, rfl⟩ := List.mem_map.mp hr
  rw [List.mem_range] at hp
  refine ⟨by simp, fun z hz => ?_⟩
  obtain ⟨q, _, rfl⟩ := List.mem_map.mp hz
  have := Nat.mod_lt (p + 1) (show 0 < a by omega)
  omega⟩
def gC (a b k : Nat) : D := pN (k % a) (k % b)
noncomputable abbrev fC (a b : Nat) : D → D → D := pairF (spT (cntr a)) (spT (cntr b))
/-- what both counts come to -/
structure Cm (a b m : Nat) : Prop where
  ha : 0 < a
  hb : 0 < b
  hm : 0 < m
  ma : m % a = 0
  mb : m % b = 0
  le : ∀ k, 0 < k → k < m → ¬ (k % a = 0 ∧ k % b = 0)
theorem f_gC {a b : Nat} (ha : 0 < a) (hb : 0 < b) (k l : Nat) : fC a b (gC a b k) (gC a b l) = gC a b (k + 1) := by
  unfold gC fC
  have h1 := Nat.mod_lt k ha
  have h2 := Nat.mod_lt k hb
  have h3 := Nat.mod_lt l ha
  have h4 := Nat.mod_lt l hb
  rw [pair_nxE cntr_rows cntr_rows (by rw [cntr_len]; omega) (by rw [cntr_len]; omega) (by rw [cntr_len]; omega) (by rw [cntr_len]; omega), cntr_nx h1 h3, cntr_nx h2 h4, Nat.mod_add_mod, Nat.mod_add_mod]
theorem starts_C {a b : Nat} : startsP [] [] [0] [0] = [gC a b 0] := by
  unfold startsP lsP gC pN
  have : nmsP ([] : List Str) [] = [] := List.eq_nil_iff_forall_not_mem.mpr fun x hx => by
    rcases nmsP_memE.mp hx with z | z <;> cases z
  rw [this, Nat.zero_mod, Nat.zero_mod]
  rfl
section
variable {a b m : Nat} (C : Cm a b m)
include C
theorem gC_mod (k : Nat) : gC a b (k % m) = gC a b k := by
  unfold gC
  rw [Nat.mod_mod_of_dvd _ (Nat.dvd_of_mod_eq_zero C.ma), Nat.mod_mod_of_dvd _ (Nat.dvd_of_mod_eq_zero C.mb)]
theorem gC_inj {i j : Nat} (hi : i < m) (hj : j < m) (h : gC a b i = gC a b j) : i = j := by
  obtain ⟨h1, h2⟩ := pN_inj h
  rcases Nat.lt_trichotomy i j with z | z | z
  · exact absurd ⟨Nat.sub_mod_eq_zero_of_mod_eq h1.symm, Nat.sub_mod_eq_zero_of_mod_eq h2.symm⟩ (C.le (j - i) (by omega) (by omega))
  · exact z
  · exact absurd ⟨Nat.sub_mod_eq_zero_of_mod_eq h1, Nat.sub_mod_eq_zero_of_mod_eq h2⟩ (C.le (i - j) (by omega) (by omega))
theorem gs_nd : ((List.range m).map (gC a b)).Nodup := by
  refine List.pairwise_map.mpr (List.Pairwise.imp_of_mem (fun {x y} hx hy h e => h ?_) List.nodup_range)
  exact gC_inj C (List.mem_range.mp hx) (List.mem_range.mp hy) e
theorem no_gC (N : NoRun (fC a b) (startsP [] [] [0] [0])) : 64 < m := by
  obtain ⟨S0, e1, e2⟩ := N
  have a4 := pushAll_some e1
  have l0 := a4.2.2.2.1 (by simp)
  have lt := runU_none e2 l0
  have nd : ∀ (n : Nat) (S : List D) (p : Nat), S.Nodup → (runU (fC a b) n S p).Nodup := fun n => by
    induction n with
    | zero => exact fun S p h => h
    | succ n ih =>
      intro S p h
      rw [runU]
      split
      · exact ih _ _ ((pushUs_ok _ S).2.2.1 h)
      · exact h
  have n1 := nd 65 S0 0 (a4.2.2.1 List.nodup_nil)
  have ok := runU_ok (f := fC a b) (P := fun x => ∃ k, x = gC a b k) (fun x y ⟨k, hk⟩ ⟨l, hl⟩ => ⟨k + 1, by rw [hk, hl, f_gC C.ha C.hb]⟩) (n := 65) (S := S0) (p := 0) fun s hs => by
    rcases a4.2.2.2.2.2 s hs with z | z
    · cases z
    · rw [starts_C (a := a) (b := b), List.mem_singleton] at z
      exact ⟨0, z⟩
  have := n1.length_le_of_subset (l₂ := (List.range m).map (gC a b)) fun x hx => by
    obtain ⟨k, rfl⟩ := ok x hx
    exact List.mem_map.mpr ⟨k % m, List.mem_range.mpr (Nat.mod_lt k C.hm), gC_mod C k⟩
  rw [List.length_map, List.length_range] at this
  omega
variable {k1 k2 : List Int} {j1 j2 : Nat} {F : List D} {ps : List (Nat × Nat)} {t : Tb} {x : D} (E : EaX [] [] [0] [0] (cntr a) (cntr b) k1 k2 j1 j2 F ps t x)
include E
theorem F_mem (x : D) : x ∈ F ↔ ∃ k, k < m ∧ x = gC a b k := by
  obtain ⟨S0, e1, e2⟩ := E.run.run
  have a4 := pushAll_some e1
  obtain ⟨c1, c2⟩ := runP_clE E.run
  have h0 : ∀ k, gC a b k ∈ F := fun k => by
    induction k with
    | zero => exact c1 _ (by rw [starts_C (a := a) (b := b)]; exact List.mem_singleton.mpr rfl)
    | succ k ih => rw [← f_gC C.ha C.hb k k]; exact c2 _ ih _ ih
  constructor
  · intro hx
    obtain ⟨k, rfl⟩ := runS_ok (f := fC a b) (P := fun x => ∃ k, x = gC a b k) (fun x y ⟨k, hk⟩ ⟨l, hl⟩ => ⟨k + 1, by rw [hk, hl, f_gC C.ha C.hb]⟩) e2 (fun s hs => by
      rcases a4.2.2.2.2.2 s hs with z | z
      · cases z
      · rw [starts_C (a := a) (b := b), List.mem_singleton] at z
        exact ⟨0, z⟩) x hx
    exact ⟨k % m, Nat.mod_lt k C.hm, (gC_mod C k).symm⟩
  · rintro ⟨k, _, rfl⟩
    exact h0 k
theorem F_perm : F.Perm ((List.range m).map (gC a b)) := (List.perm_ext_iff_of_nodup E.nd (gs_nd C)).mpr fun x => by
  rw [F_mem C E x, List.mem_map]
  constructor
  · rintro ⟨k, hk, rfl⟩; exact ⟨k, List.mem_range.mpr hk, rfl⟩
  · rintro ⟨k, hk, rfl⟩; exact ⟨k, List.mem_range.mp hk, rfl⟩
theorem F_len : F.length = m := by rw [(F_perm C E).length_eq]; simp
/-- the place of a pair -/
theorem idx_ok {k : Nat} (hk : k < m) : F.idxOf (gC a b k) < m ∧ F[F.idxOf (gC a b k)]? = some (gC a b k) := by
  have hm := (F_mem C E (gC a b k)).mpr ⟨k, hk, rfl⟩
  have lt := List.idxOf_lt_length_of_mem hm
  refine ⟨by rw [F_len C E] at lt; exact lt, ?_⟩
  rw [List.getElem?_eq_getElem lt, List.getElem_idxOf]
theorem idx_inj {k l : Nat} (hk : k < m) (hl : l < m) (h : F.idxOf (gC a b k) = F.idxOf (gC a b l)) : k = l := by
  have e1 := (idx_ok C E hk).2
  rw [h, (idx_ok C E hl).2] at e1
  exact gC_inj C hk hl (Option.some.inj e1).symm
theorem idx_of {s : Nat} (hs : s < m) : ∃ k, k < m ∧ F.idxOf (gC a b k) = s ∧ F[s]? = some (gC a b k) := by
  have lt : s < F.length := by rw [F_len C E]; exact hs
  obtain ⟨k, hk, e⟩ := (F_mem C E F[s]).mp (List.getElem_mem lt)
  refine ⟨k, hk, ?_, by rw [List.getElem?_eq_getElem lt, e]⟩
  rw [← e, E.nd.idxOf_getElem s lt]
theorem st_C : stE [] [] [0] [0] F = [((F.idxOf (gC a b 0) : Nat) : Int)] := by unfold stE; rw [starts_C (a := a) (b := b)]; rfl
theorem nx_C {k l : Nat} (hk : k < m) (hl : l < m) : nx (rowsE (fC a b) F) (F.idxOf (gC a b k)) (F.idxOf (gC a b l)) = F.idxOf (gC a b ((k + 1) % m)) := by
  obtain ⟨i1, i2⟩ := idx_ok C E hk
  obtain ⟨j1, j2⟩ := idx_ok C E hl
  have hF := F_len C E
  rw [rowsE_nx (by omega) (by omega)]
  unfold atS
  rw [List.getD_eq_getElem?_getD, List.getD_eq_getElem?_getD, i2, j2]
  show F.idxOf (fC a b (gC a b k) (gC a b l)) = _
  rw [f_gC C.ha C.hb, gC_mod C]
theorem size_le : ∀ k, k < m → ∃ c, t[F.idxOf (gC a b k)]? = some (some c) ∧ c ≤ k + 1
  | 0, h => ⟨1, E.iv.sta _ (by rw [st_C C E]; exact List.mem_singleton.mpr rfl), by omega⟩
  | k + 1, h => by
    obtain ⟨c, h1, h2⟩ := size_le k (by omega)
    obtain ⟨d, h3, h4⟩ := E.cl _ _ c 1 h1 (E.iv.sta _ (by rw [st_C C E]; exact List.mem_singleton.mpr rfl))
    rw [nx_C C E (by omega) C.hm, Nat.mod_eq_of_lt h] at h3
    exact ⟨d, h3, by omega⟩
theorem size_ge : ∀ (n z s : Nat), z ≤ n → t[s]? = some (some z) → ∀ k, k < m → s = F.idxOf (gC a b k) → k + 1 ≤ z
  | 0, z, s, hz, e, k, hk, es => by have := (E.iv.pos s z e).1; omega
  | n + 1, z, s, hz, e, k, hk, es => by
    have tl : t.length = m := by rw [E.iv.len]; unfold rowsE; simp; exact F_len C E
    rcases E.iv.sup s z e with ⟨rfl, q⟩ | ⟨p, q, u, v, h1, h2, h3, h4⟩
    · rw [st_C C E, List.mem_singleton] at q
      have : k = 0 := idx_inj C E hk C.hm (by omega)
      omega
    · have hp : p < m := by rw [← tl]; exact (List.getElem?_eq_some_iff.mp h1).1
      have hq : q < m := by rw [← tl]; exact (List.getElem?_eq_some_iff.mp h2).1
      obtain ⟨kp, p1, p2, _⟩ := idx_of C E hp
      obtain ⟨kq, q1, q2, _⟩ := idx_of C E hq
      have u1 := (E.iv.pos p u h1).1
      have v1 := (E.iv.pos q v h2).1
      have := size_ge n u p (by omega) h1 kp p1 p2.symm
      rw [← p2, ← q2, nx_C C E p1 q1] at h3
      have : (kp + 1) % m = k := idx_inj C E (Nat.mod_lt _ C.hm) hk (by omega)
      have := Nat.mod_le (kp + 1) m
      omega
theorem size_C {k : Nat} (hk : k < m) : szO t (F.idxOf (gC a b k)) = k + 1 := by
  obtain ⟨c, h1, h2⟩ := size_le C E k hk
  have h3 := size_ge C E c c _ (Nat.le_refl _) h1 k hk rfl
  rw [szO_of h1]
  omega
theorem ps_at {s k : Nat} (h : F[s]? = some (gC a b k)) : ps[s]? = some (k % a, k % b) := by
  rw [E.eF, List.getElem?_map, Option.map_eq_some_iff] at h
  obtain ⟨y, h1, h2⟩ := h
  obtain ⟨e1, e2⟩ := pN_inj (show pN y.1 y.2 = pN (k % a) (k % b) from h2)
  rw [h1, ← e1, ← e2]
def dueC (a b m : Nat) : List (Int × Int × Int) := (List.range m).map fun k => (((k % a : Nat) : Int), ((k % b : Nat) : Int), (((k + 1 : Nat)) : Int))
theorem paper_C : sortQ (trX ps t) = sortQ (dueC a b m) := by
  have hl : ps.length = m := by rw [← F_len C E, E.eF]; simp
  refine sortQ_perm ((List.perm_ext_iff_of_nodup ?_ ?_).mpr fun y => ?_)
  · refine List.Pairwise.of_map (S := (· ≠ ·)) (fun y : Int × Int × Int => pN y.1.toNat y.2.1.toNat) (fun _ _ h e => h (by rw [e])) ?_
    have : (trX ps t).map (fun y : Int × Int × Int => pN y.1.toNat y.2.1.toNat) = F := by
      rw [E.eF]
      unfold trX
      refine List.ext_getElem? fun i => ?_
      rw [List.map_map, List.getElem?_map, List.getElem?_map]
      rcases Nat.lt_or_ge i ps.length with z | z
      · rw [List.getElem?_range z, List.getElem?_eq_getElem z]
        simp only [Option.map_some, Function.comp_apply, getD_ltE z, Int.toNat_natCast]
      · rw [List.getElem?_eq_none (by simpa using z), List.getElem?_eq_none z]; rfl
    rw [this]
    exact E.nd
  · refine List.Pairwise.of_map (S := (· ≠ ·)) (fun y : Int × Int × Int => pN y.1.toNat y.2.1.toNat) (fun _ _ h e => h (by rw [e])) ?_
    have : (dueC a b m).map (fun y : Int × Int × Int => pN y.1.toNat y.2.1.toNat) = (List.range m).map (gC a b) := by
      unfold dueC
      rw [List.map_map]
      rfl
    rw [this]
    exact gs_nd C
  · unfold trX dueC
    rw [List.mem_map, List.mem_map]
    constructor
    · rintro ⟨s, hs, rfl⟩
      rw [List.mem_range, hl] at hs
      obtain ⟨k, h1, h2, h3⟩ := idx_of C E hs
      refine ⟨k, List.mem_range.mpr h1, ?_⟩
      rw [List.getD_eq_getElem?_getD, ps_at C E h3, ← h2, size_C C E h1]
      rfl
    · rintro ⟨k, hk, rfl⟩
      rw [List.mem_range] at hk
      obtain ⟨h1, h2⟩ := idx_ok C E hk
      refine ⟨F.idxOf (gC a b k), List.mem_range.mpr (by omega), ?_⟩
      rw [List.getD_eq_getElem?_getD, ps_at C E h2, size_C C E hk]
      rfl
end
end
section
open PySem L2

/-! names of forms: k11 to k19 -/
theorem inD_strsP {x : Str} {l : List Str} {b : D} {h : MH} (e : seqOf h b = some (l.map .str)) (hb : ∀ z, b ≠ .str z) : inD (.str x) b h = some (decide (x ∈ l)) := by
  have h1 : ((l.map D.str).all flatD) = true := by
    rw [List.all_eq_true]
    intro d hd
    obtain ⟨y, _, rfl⟩ := List.mem_map.mp hd
    rfl
  have h2 : ((l.map D.str).any fun y => eqF y (.str x)) = decide (x ∈ l) := by
    rw [Bool.eq_iff_iff, List.any_eq_true, decide_eq_true_iff]
    constructor
    · rintro ⟨d, hd, e⟩
      obtain ⟨y, hy, rfl⟩ := List.mem_map.mp hd
      have : y = x := by simpa [eqF] using e
      exact this ▸ hy
    · intro hx
      exact ⟨.str x, List.mem_map.mpr ⟨x, hx, rfl⟩, by simp [eqF]⟩
  cases b with
  | str z => exact absurd rfl (hb z)
  | _ => simp only [inD, e, flatD, h1, and_self, if_true, h2]
theorem w_inLsP {x : Str} {l : List Str} {h : MH} {Q : D → MH → Prop} {E : XE} {i : Nat} (e : getL h i = some (l.map .str)) (q : Q (.bl (decide (x ∈ l))) h) : Sat (dIn (.str x) (.ref i) h) Q E := w_eq (by simp only [dIn, inD_strsP (x := x) (l := l) (b := .ref i) (h := h) e (fun z => by simp)]) q
/-- the letter of a number -/
def lt1 (i : Int) : Nat := 97 + (i % 26).toNat
def l1 (i : Int) : Str := ⟨#[lt1 i]⟩
theorem abc_cps : (Str.ofString "abcdefghijklmnopqrstuvwxyz").cps.toList = (List.range 26).map (97 + ·) := by decide +kernel
theorem lt1_ltr (i : Int) : Ltr (lt1 i) := by
  have := mod_in i (n := 26) (by decide)
  unfold Ltr lt1
  omega
theorem l1_ls (i : Int) : Ls 1 (l1 i) := ⟨rfl, fun d hd => by
  have : d = lt1 i := by simpa [l1] using hd
  rw [this]
  exact lt1_ltr i⟩
theorem w_ltr1 {i : Int} {h : MH} {Q : D → MH → Prop} {E : XE} (q : Q (.str (l1 i)) h) : Sat (dIx (.str (Str.ofString "abcdefghijklmnopqrstuvwxyz")) (.int (i % 26)) h) Q E := by
  have hm := mod_in i (n := 26) (by decide)
  obtain ⟨c, e1, e2⟩ := atI_in (l := (Str.ofString "abcdefghijklmnopqrstuvwxyz").cps.toList) hm.1 (by rw [← str_len, lt_len]; exact hm.2)
  rw [abc_cps, List.getElem?_map, List.getElem?_range (by omega)] at e2
  have : c = lt1 i := by
    simp at e2
    rw [← e2]
    rfl
  subst this
  exact w_ixS (by rw [lt_len]; decide) e1 q
theorem l1_inj {i j : Int} (hi : 0 ≤ i ∧ i < 26) (hj : 0 ≤ j ∧ j < 26) (e : l1 i = l1 j) : i = j := by
  have : lt1 i = lt1 j := by
    have := congrArg (fun s : Str => s.cps.toList) e
    simpa [l1] using this
  unfold lt1 at this
  omega
theorem many_l1 {xs : List Str} {j : Nat} (hj : j ≤ 26) (h : ∀ t : Nat, t < j → l1 (t : Int) ∈ xs) : j ≤ xs.length := by
  have hn : ((List.range j).map fun t : Nat => l1 (t : Int)).Nodup := by
    rw [List.nodup_iff_pairwise_ne, List.pairwise_map]
    refine (List.nodup_iff_pairwise_ne.mp (List.nodup_range (n := j))).imp_of_mem fun {a b} ha hb hne e => ?_
    have ha := List.mem_range.mp ha
    have hb := List.mem_range.mp hb
    have := l1_inj (i := (a : Int)) (j := (b : Int)) (by omega) (by omega) e
    omega
  have hs : ((List.range j).map fun t : Nat => l1 (t : Int)) ⊆ xs := fun x hx => by
    obtain ⟨t, ht, rfl⟩ := List.mem_map.mp hx
    exact h t (List.mem_range.mp ht)
  have := hn.length_le_of_subset hs
  simpa using this
theorem n_any {c n : Int} (hn : 0 ≤ n ∧ n ≤ 8) {h : MH} : Sat (m_any_names_23d34 [.int c, .int n] h) (fun d h' => ∃ (i : Nat) (xs : List Str), d = .ref i ∧ Own h h' [(i, xs.map .str)] ∧ (xs.length : Int) = n ∧ xs.Nodup ∧ ∀ x ∈ xs, Nm x) noX := by
  walk_at "fn"
  refine o_new (Own.nil h) (by simp) fun iL h1 o1 => ?_
  walk_at "go"
  refine w_loop0 (fun k ρ h' => ∃ (c : Int) (o4 o5 o6 o7 : Option D) (xs : List Str), ρ = [some (.int c), some (.int n), some (.str (Str.ofString "abcdefghijklmnopqrstuvwxyz")), some (.ref iL), o4, o5, o6, o7] ∧ Own h h' [(iL, xs.map .str)] ∧ xs.length = k ∧ xs.Nodup ∧ ∀ x ∈ xs, Nm x)
    ⟨c, none, none, none, none, [], rfl, o1, rfl, List.nodup_nil, fun x hx => by simp at hx⟩ (fun _ _ _ _ => rfl) ?_ ?_
  · rintro k d ρ h' hd ⟨c, o4, o5, o6, o7, xs, rfl, o, hk, hnd, hnm⟩
    obtain ⟨hk', rfl⟩ := rangeD_get hd
    refine ⟨_, rfl, ?_⟩
    have hm := mod_in c (n := 8) (by decide)
    dsimp only [List.set]
    walk_at "go"
    generalize hsz : 1 + c % 8 = sz at *
    refine w_while (fun m ρ h'' => h'' = h' ∧ ∃ (c : Int) (w : Str) (a : Nat), m = 8 - a ∧ ρ = [some (.int c), some (.int n), some (.str (Str.ofString "abcdefghijklmnopqrstuvwxyz")), some (.ref iL), some (.int (0 + (k : Int))), some (.int sz), some (.str w), o7] ∧ Ls a w ∧ (a : Int) ≤ sz) 8 (by decide) ⟨rfl, c / 8, _, 0, rfl, rfl, ⟨rfl, fun c hc => by rw [emp_cps] at hc; simp at hc⟩, by omega⟩ ?_
    rintro m ρ h'' ⟨rfl, c2, w, a, rfl, rfl, hw, ha⟩
    walk_at "go"
    refine w_lenS (by rw [hw.1]; omega) ?_
    walk_at "go"
    rw [hw.1]
    refine br_d (fun q => ?_) (fun q => ?_)
    · walk_at "go"
      refine w_ltr1 ?_
      refine w_addLs hw (l1_ls _) (by omega) fun hxz => ?_
      walk_at "go"
      exact ⟨8 - (a + 1), by omega, rfl, _, _, a + 1, rfl, rfl, hxz, by omega⟩
    have hwn : Nm w := hw.nm (by omega) (by omega)
    walk_at "go"
    refine w_while (fun m ρ h3 => h3 = h'' ∧ ∃ (w : Str) (j : Nat), m = xs.length + 2 - j ∧ ρ = [some (.int c2), some (.int n), some (.str (Str.ofString "abcdefghijklmnopqrstuvwxyz")), some (.ref iL), some (.int (0 + (k : Int))), some (.int sz), some (.str w), some (.int (j : Int))] ∧ Nm w ∧ j ≤ xs.length + 1 ∧ (∀ t : Nat, t + 1 < j → l1 (t : Int) ∈ xs) ∧ (1 ≤ j → w = l1 ((j : Int) - 1))) (xs.length + 2) (by omega) ⟨rfl, w, 0, rfl, rfl, hwn, by omega, fun t ht => by omega, fun z => by omega⟩ ?_
    rintro m ρ h3 ⟨rfl, w, j, rfl, rfl, hw2, hj, hall, hlast⟩
    walk_at "go"
    refine w_inLsP (o.atL 0 rfl) ?_
    walk_at "go"
    refine br_d (fun q => ?_) (fun q => ?_)
    · have hj2 : j ≤ xs.length := many_l1 (by omega) fun t ht => by
        by_cases z : t + 1 < j
        · exact hall t z
        · have : (j : Int) - 1 = (t : Int) := by omega
          rw [← this, ← hlast (by omega)]
          exact q
      walk_at "go"
      refine w_ltr1 ?_
      walk_at "go"
      refine w_eq (by rw [dMul_str, if_pos ⟨by omega, by omega, by rw [show (l1 (j : Int)).length = 1 from rfl]; omega⟩]) ?_
      have e1 : Txt.mul (l1 (j : Int)) (1 + (j : Int) / 26) = l1 (j : Int) := by
        have : (1 : Int) + (j : Int) / 26 = 1 := by omega
        rw [this]
        rfl
      rw [e1]
      walk_at "go"
      exact ⟨xs.length + 2 - (j + 1), by omega, rfl, l1 (j : Int), j + 1, rfl, by simp, (l1_ls _).nm (by decide) (by decide), by omega, fun t ht => by
        by_cases z : t + 1 < j
        · exact hall t z
        · have : (j : Int) - 1 = (t : Int) := by omega
          rw [← this, ← hlast (by omega)]
          exact q, fun _ => by simp⟩
    · walk_at "go"
      refine o_app o 0 rfl (by simp; omega) fun h5 o5 => ?_
      rw [List.set_cons_zero, map_app1] at o5
      exact ⟨_, _, _, _, _, _, rfl, o5, by simp [hk], by
        rw [List.nodup_append]
        exact ⟨hnd, by simp, fun a ha b hb => by rw [List.mem_singleton.mp hb]; rintro rfl; exact q ha⟩, mem_app hnm hw2⟩
  · rintro ρ h' ⟨c, o4, o5, o6, o7, xs, rfl, o, hk, hnd, hnm⟩
    rw [rangeD_length] at hk
    walk_at "go"
    exact ⟨iL, xs, rfl, o, by omega, hnd, hnm⟩
theorem cutP_to {T : Str} {a : Int} (h0 : 0 ≤ a) : (cutS T none (some a)).cps.toList = T.cps.toList.take a.toNat := by
  obtain ⟨k, rfl⟩ := Int.eq_ofNat_of_zero_le h0
  rw [Int.toNat_natCast]
  unfold cutS
  rw [HT.sIx_none, HT.sIx_nat, List.drop_zero, Nat.sub_zero, str_len]
  rcases Nat.lt_or_ge k T.cps.toList.length with z | z
  · rw [Nat.min_eq_left (Nat.le_of_lt z)]
  · rw [Nat.min_eq_right z, List.take_length, List.take_of_length_le z]
theorem cutP_from {T : Str} {a : Int} (h0 : 0 ≤ a) : (cutS T (some a) none).cps.toList = T.cps.toList.drop a.toNat := by
  obtain ⟨k, rfl⟩ := Int.eq_ofNat_of_zero_le h0
  rw [Int.toNat_natCast]
  unfold cutS
  rw [HT.sIx_none, HT.sIx_nat, str_len]
  rcases Nat.lt_or_ge k T.cps.toList.length with z | z
  · rw [Nat.min_eq_left (Nat.le_of_lt z), List.take_of_length_le (by simp)]
  · rw [Nat.min_eq_right z, List.drop_of_length_le z, List.drop_length, List.take_nil]
theorem Ls.to {n : Nat} {x : Str} (hx : Ls n x) {a : Int} (h0 : 0 ≤ a) (h1 : a ≤ n) : Ls a.toNat (cutS x none (some a)) := by
  have hl := hx.1
  rw [str_len] at hl
  refine ⟨?_, fun c hc => ?_⟩
  · rw [str_len, cutP_to h0, List.length_take, hl]
    omega
  · rw [cutP_to h0] at hc
    exact hx.2 c (List.mem_of_mem_take hc)
theorem Ls.from {n : Nat} {x : Str} (hx : Ls n x) {a : Int} (h0 : 0 ≤ a) (h1 : a ≤ n) : Ls (n - a.toNat) (cutS x (some a) none) := by
  have hl := hx.1
  rw [str_len] at hl
  refine ⟨?_, fun c hc => ?_⟩
  · rw [str_len, cutP_from h0, List.length_drop, hl]
  · rw [cutP_from h0] at hc
    exact hx.2 c (List.mem_of_mem_drop hc)
theorem Ls.join {ys : List Str} (h : ∀ y ∈ ys, Ls 1 y) : Ls ys.length (Txt.join (Str.ofString "") ys) := by
  refine ⟨?_, fun c hc => ?_⟩
  · rw [str_len, join_cps]
    induction ys with
    | nil => rfl
    | cons y ys ih =>
      have h1 := (h y List.mem_cons_self).1
      have h2 := ih fun z hz => h z (List.mem_cons_of_mem _ hz)
      rw [str_len] at h1
      rw [List.map_cons, List.flatten_cons, List.length_append, h1, h2, List.length_cons]
      omega
  · rw [join_cps] at hc
    obtain ⟨l, hl, hc⟩ := List.mem_flatten.mp hc
    obtain ⟨y, hy, rfl⟩ := List.mem_map.mp hl
    exact (h y hy).2 c hc
theorem strs_P {S : Nat → Str → Prop} : ∀ {ys : List D}, (∀ (i : Nat) y, ys[i]? = some y → ∃ x, y = .str x ∧ S i x) → ∃ ns : List Str, ys = ns.map .str ∧ ∀ (i : Nat) x, ns[i]? = some x → S i x
  | [], _ => ⟨[], rfl, fun i x hx => by simp at hx⟩
  | y :: ys, h => by
    obtain ⟨x, rfl, hx⟩ := h 0 y rfl
    obtain ⟨ns, rfl, hn⟩ := strs_P (S := fun i => S (i + 1)) (ys := ys) fun i z hz => h (i + 1) z (by simpa using hz)
    refine ⟨x :: ns, rfl, fun i z hz => ?_⟩
    cases i with
    | zero => simp at hz; exact hz ▸ hx
    | succ i => exact hn i z (by simpa using hz)
theorem nodup_P {xs : List Str} (f : Str → Int) (h : ∀ (i : Nat) x, xs[i]? = some x → f x = (i : Int)) : xs.Nodup := by
  rw [List.nodup_iff_pairwise_ne, List.pairwise_iff_getElem]
  intro i j hi hj hij e
  have h1 := h i _ (List.getElem?_eq_getElem hi)
  have h2 := h j _ (List.getElem?_eq_getElem hj)
  rw [e] at h1
  omega
theorem nodup_P2 {xs : List Str} {α : Type} (f : Str → α) (g : Nat → α) (h : ∀ (i : Nat) x, xs[i]? = some x → f x = g i) (hg : ∀ i j : Nat, i < j → j < xs.length → g i ≠ g j) : xs.Nodup := by
  rw [List.nodup_iff_pairwise_ne, List.pairwise_iff_getElem]
  intro i j hi hj hij e
  have h1 := h i _ (List.getElem?_eq_getElem hi)
  have h2 := h j _ (List.getElem?_eq_getElem hj)
  rw [e] at h1
  exact hg i j hij hj (h1.symm.trans h2)
end
section
open PySem L2

theorem n_names54 {c n : Int} (hn : 0 ≤ n ∧ n ≤ 8) {h : MH} : Sat (m_names_53c1e [.int c, .int n] h) (fun d h' => ∃ (i : Nat) (xs : List Str), d = .ref i ∧ Own h h' [(i, xs.map .str)] ∧ (xs.length : Int) = n ∧ xs.Nodup ∧ ∀ x ∈ xs, Nm x) noX := by
  walk_at "fn"
  refine w_pow (n := 18) (by decide) ?_
  walk_at "go"
  refine br_d (fun q => ?_) (fun q => ?_)
  · walk_at "go"
    exact (n_any hn).mono fun d h' hh => hh
  walk_at "go"
  have hu := mod_in c (n := 1000003) (by decide)
  generalize c % 1000003 = u at *
  refine ⟨rfl, ?_⟩
  walk_at "go"
  refine o_comp (fun _ y => ∃ x, y = .str x ∧ Ls 1 x) (Own.nil h) (by simp) (fun _ _ => rfl) ?_ ?_
  · intro k d h' hd _
    obtain ⟨hk, rfl⟩ := rangeD_get hd
    have hk' : k < 8 := hk
    have hkk : (0 + (k : Int)) * (0 + (k : Int)) ≤ 49 ∧ 0 ≤ (0 + (k : Int)) * (0 + (k : Int)) := by
      have e : (0 + (k : Int)) * (0 + (k : Int)) = ((k * k : Nat) : Int) := by push_cast; simp
      have := Nat.mul_le_mul (show k ≤ 7 by omega) (show k ≤ 7 by omega)
      rw [e]
      omega
    refine ⟨_, rfl, ?_⟩
    walk_at "go"
    exact w_ltr1 ⟨rfl, _, rfl, l1_ls _⟩
  intro ys hy hp i1 h1 o1
  obtain ⟨ns, rfl, hns⟩ := strs_P (S := fun _ x => Ls 1 x) hp
  have hns' : ∀ x ∈ ns, Ls 1 x := fun x hx => by
    obtain ⟨i, hi, rfl⟩ := List.mem_iff_getElem.mp hx
    exact hns i _ (List.getElem?_eq_getElem hi)
  have hy8 : ns.length = 8 := by simpa using hy
  have sm : (ns.map (·.length)).sum ≤ 8 := by
    rw [← hy8]
    clear hp hy hy8 o1 hns
    induction ns with
    | nil => simp
    | cons y ys ih =>
      have h1 := (hns' y List.mem_cons_self).1
      have h2 := ih fun z hz => hns' z (List.mem_cons_of_mem _ hz)
      simp only [List.map_cons, List.sum_cons, List.length_cons]
      omega
  walk_at "go"
  refine w_join (o1.atL 0 rfl) (by rw [show (Str.ofString "").length = 0 from rfl]; omega) ?_
  have hb := Ls.join hns'
  rw [hy8] at hb
  generalize Txt.join (Str.ofString "") ns = base at hb
  have hbl : base.length ≤ 1000000 := by rw [hb.1]; decide
  walk_at "go"
  refine br_d (fun c1 => ?_) (fun c1 => ?_)
  · walk_at "go"
    refine o_comp (fun k y => ∃ x, y = .str x ∧ Ls (k + 1) x ∧ (k : Int) < n) o1.none (by simp; omega) (fun _ _ => rfl) ?_ ?_
    · intro k d h' hd _
      obtain ⟨hk, rfl⟩ := rangeD_get hd
      refine ⟨_, rfl, ?_⟩
      walk_at "go"
      have := hb.to (a := 0 + (k : Int) + 1) (by omega) (by omega)
      rw [show (0 + (k : Int) + 1).toNat = k + 1 by omega] at this
      exact ⟨rfl, _, rfl, this, by omega⟩
    · intro ys hy hp i2 h2 o2
      obtain ⟨xs, rfl, hxs⟩ := strs_P (S := fun k x => Ls (k + 1) x ∧ (k : Int) < n) hp
      refine ⟨i2, xs, rfl, o2, by simp at hy; omega, nodup_P (fun x => (x.length : Int) - 1) fun i x hx => ?_, fun x hx => ?_⟩
      · rw [(hxs i x hx).1.1]; omega
      · obtain ⟨i, hi, rfl⟩ := List.mem_iff_getElem.mp hx
        obtain ⟨e1, e2⟩ := hxs i _ (List.getElem?_eq_getElem hi)
        exact e1.nm (by omega) (by omega)
  · walk_at "go"
    have ha := mod_in (u / 2) (n := 8) (by decide)
    generalize u / 2 % 8 = t at *
    have hs := mod_in (u / 16) (n := 8 - t) (by omega)
    walk_at "go"
    generalize hsz : t + 1 + u / 16 % (8 - t) = sz at *
    have hsz1 : t + 1 ≤ sz ∧ sz ≤ 8 := by omega
    refine o_new o1.none (by simp) fun iL h2 o2 => ?_
    walk_at "go"
    refine w_loop0 (fun k ρ h' => ∃ (o8 o9 : Option D) (xs : List Str), ρ = [some (.int c), some (.int n), some (.str (Str.ofString "abcdefghijklmnopqrstuvwxyz")), some (.int u), some (.str base), some (.int t), some (.int sz), some (.ref iL), o8, o9] ∧ Own h h' [(iL, xs.map .str)] ∧ xs.length = k ∧ ∀ (i : Nat) x, xs[i]? = some x → Ls sz.toNat x ∧ x.cps.toList[t.toNat]? = some (lt1 (u / 128 + (i : Int))))
      ⟨none, none, [], rfl, o2, rfl, fun i x hx => by simp at hx⟩ (fun _ _ _ _ => rfl) ?_ ?_
    · rintro k d ρ h' hd ⟨o8, o9, xs, rfl, o, hk, hxs⟩
      obtain ⟨hk', rfl⟩ := rangeD_get hd
      refine ⟨_, rfl, ?_⟩
      dsimp only [List.set]
      walk_at "go"
      refine w_ltr1 ?_
      walk_at "go"
      have hA := hb.to (a := t) ha.1 (by omega)
      refine w_addLs hA (l1_ls _) (by omega) fun hB => ?_
      walk_at "go"
      have hC := hb.from (a := t + 1) (by omega) (by omega)
      refine w_addLs hB hC (by omega) fun hD => ?_
      have hw8 : t.toNat + 1 + (8 - (t + 1).toNat) = 8 := by omega
      rw [hw8] at hD
      have hch : ((cutS base none (some t) ++ l1 (u / 128 + (0 + (k : Int)))) ++ cutS base (some (t + 1)) none).cps.toList[t.toNat]? = some (lt1 (u / 128 + (0 + (k : Int)))) := by
        have hl := hA.1
        rw [str_len] at hl
        rw [app_cps, app_cps, List.append_assoc, List.getElem?_append_right (by omega), hl, Nat.sub_self]
        rfl
      generalize (cutS base none (some t) ++ l1 (u / 128 + (0 + (k : Int)))) ++ cutS base (some (t + 1)) none = w at *
      have hwl : w.length ≤ 1000000 := by rw [hD.1]; decide
      walk_at "go"
      refine o_app o 0 rfl (by simp; omega) fun h5 o5 => ?_
      rw [List.set_cons_zero, map_app1] at o5
      refine ⟨_, _, _, rfl, o5, by simp [hk], fun i x hx => ?_⟩
      by_cases hi : i < xs.length
      · rw [List.getElem?_append_left hi] at hx
        exact hxs i x hx
      · rw [List.getElem?_append_right (by omega)] at hx
        have hi2 : i - xs.length = 0 := by
          rcases Nat.eq_zero_or_pos (i - xs.length) with z | z
          · exact z
          · rw [List.getElem?_eq_none (by simp; omega)] at hx; cases hx
        rw [hi2] at hx
        have hx : cutS w none (some sz) = x := by simpa using hx
        subst hx
        refine ⟨hD.to (by omega) (by omega), ?_⟩
        rw [cutP_to (by omega), List.getElem?_take_of_lt (by omega), hch]
        have : i = k := by omega
        rw [this, Int.zero_add]
    · rintro ρ h' ⟨o8, o9, xs, rfl, o, hk, hxs⟩
      rw [rangeD_length] at hk
      walk_at "go"
      refine ⟨iL, xs, rfl, o, by omega, nodup_P2 (fun x => x.cps.toList[t.toNat]?) (fun i => some (lt1 (u / 128 + (i : Int)))) (fun i x hx => (hxs i x hx).2) fun i j hij hj e => ?_, fun x hx => ?_⟩
      · have e : lt1 (u / 128 + (i : Int)) = lt1 (u / 128 + (j : Int)) := Option.some.inj e
        unfold lt1 at e
        omega
      · obtain ⟨i, hi, rfl⟩ := List.mem_iff_getElem.mp hx
        obtain ⟨e1, e2⟩ := hxs i _ (List.getElem?_eq_getElem hi)
        exact e1.nm (by omega) (by omega)
end
end Mi


/-! range with a step -/
namespace Mi
open PySem L2 PySem.Spec PyProof.Rows
def stepD (i c : Int) (n : Nat) : List D := (List.range n).map fun (k : Nat) => D.int (i + (k : Int) * c)
def dR3 (x y z : D) (h : MH) : R (List D × (MH → Bool)) := match x, y, z with
  | .int i, .int j, .int c => if c ≠ 0 ∧ c.natAbs < 1073741824 ∧ Builtin.Range.small i j c = true ∧ 0 ≤ Builtin.Range.rangeSize i j c then .ok (stepD i c (Builtin.Range.rangeSize i j c).toNat, yes) h else .bad
  | _, _, _ => .bad
def mRange3 (a b c : ME) : MI := fun ρ h => (a ρ h).bind fun x h1 => (b ρ h1).bind fun y h2 => (c ρ h2).bind fun z h3 => dR3 x y z h3
section
variable {X : Cx} {g : G} {W : WX} {a b c : Expr} {ma mb mc : ME} {pos : Pos} {tg : Expr}
end
section
variable {QI : List D × (MH → Bool) → MH → Prop} {E : XE} {h : MH} {ρ : Slots}
end
end Mi

/-! several except clauses, with a name and without. -/
namespace Mi
open PySem L2 PySem.Spec PyProof.Rows
/-- a clause: without a name; with a name in slot i; kept: slot i is the clause's name, slot j the one that keeps it -/
inductive HKd
  | only (ts : Addr → Value → Option Addr → TS)
  | named (i : Nat) (ts : Addr → Value → Option Addr → TS)
  | keep (i j : Nat)
def wHd (K : PySem.W.Frag) (Wo : WX) (D : Ends) : List (Value × HKd) → WX
  | [] => Wo
  | (c, .only ts) :: r => fun cls d σ H => ∃ b, PySem.W.exmOne K cls c = some b ∧ (b = true → ∀ a, H a = none → ts a cls d D σ H) ∧ (b = false → wHd K Wo D r cls d σ H)
  | (c, .named i ts) :: r => fun cls d σ H => ∃ b, PySem.W.exmOne K cls c = some b ∧ (b = true → ∀ a, H a = none → ts a cls d { nx := fun σ' H' => D.nx (σ'.set i none) H', rt := D.rt, bk := fun σ' H' => D.bk (σ'.set i none) H', ct := fun σ' H' => D.ct (σ'.set i none) H' } (σ.set i (some (.ref a))) H) ∧ (b = false → wHd K Wo D r cls d σ H)
  | (c, .keep i j) :: r => fun cls d σ H => ∃ b, PySem.W.exmOne K cls c = some b ∧ (b = true → ∃ C, cls = .ref C ∧ ∀ p, H p = none → D.nx (((σ.set i (some (.ref p))).set j (some (.ref p))).set i none) (upd H p (XOk C d p))) ∧ (b = false → wHd K Wo D r cls d σ H)
inductive HdsA (X : Cx) : List ExceptHandler → List (Value × HKd) → Prop
  | nil : HdsA X [] []
  | only {x : Str} {c : Value} {ts : Addr → Value → Option Addr → TS} {b0 : Stmt} {suite : List Stmt} {qn q0 : Pos} {hds : List ExceptHandler} {l : List (Value × HKd)} (hc : Names X x c)
      (hsu : ∀ (a : Addr) (oe : Obj) (cls : Value) (d : Option Addr) (pn : List (Addr × Obj)), Zc cls d oe → (∃ vs, oe.data = .fields vs) → PSs (X.suite a ((a, oe) :: pn)) (b0 :: suite) (ts a cls d)) (r : HdsA X hds l) :
      HdsA X (.ExceptHandler (some (.Name x qn)) none (b0 :: suite) q0 :: hds) ((c, .only ts) :: l)
  | named {x n : Str} {i : Nat} {c : Value} {ts : Addr → Value → Option Addr → TS} {b0 : Stmt} {suite : List Stmt} {qn q0 : Pos} {hds : List ExceptHandler} {l : List (Value × HKd)} (hc : Names X x c) (hi : X.N[i]? = some n) (hln : X.env.kindOf n = some .local)
      (hsu : ∀ (a : Addr) (oe : Obj) (cls : Value) (d : Option Addr) (pn : List (Addr × Obj)), Zc cls d oe → (∃ vs, oe.data = .fields vs) → PSs (X.suite a ((a, oe) :: pn)) (b0 :: suite) (ts a cls d)) (r : HdsA X hds l) :
      HdsA X (.ExceptHandler (some (.Name x qn)) (some n) (b0 :: suite) q0 :: hds) ((c, .named i ts) :: l)
  | keep {x n y : Str} {i j : Nat} {c : Value} {qn q0 q1 q2 q3 : Pos} {hds : List ExceptHandler} {l : List (Value × HKd)} (hc : Names X x c) (hi : X.N[i]? = some n) (hj : X.N[j]? = some y) (hij : i ≠ j) (hln : X.env.kindOf n = some .local) (hlr : X.env.kindOf y = some .local)
      (hdn : (n == ("__debug__" : Str)) = false) (hcd : (n == ("__classdict__" : Str)) = false) (hsw : swapsWith (.Name n q2) (some (.Name y q1)) q3.line X.env = pure false) (r : HdsA X hds l) :
      HdsA X (.ExceptHandler (some (.Name x qn)) (some n) [.Assign [.Name y q1] (.Name n q2) q3] q0 :: hds) ((c, .keep i j) :: l)
section
variable {X : Cx} {body : List Stmt} {hd0 : ExceptHandler} {hds : List ExceptHandler} {l : List (Value × HKd)} {q4 : Pos} {tb : WX → TS} {Wo : WX}
theorem ps_try_hds (hst : X.stack = X.env :: X.outer) (hfm : X.env.frame = some X.env.locals) (hND : X.N.Nodup) (tk : Takes X Wo) (hex : X.ex = [])
    (hbd : ∀ (W : WX) (pn : List (Addr × Obj)) (xe : Value → Shared → Prop), Takes (X.tr pn xe) W → PassesOwn (model X.prog X.w) X.A X.env xe → PSs (X.tr pn xe) body (tb W))
    (hh : HdsA X (hd0 :: hds) l) : PS X (.Try body (hd0 :: hds) [] [] q4) (fun D σ H => tb (wHd X.K Wo D l) D σ H) := by
  refine ⟨fun pins s σ H D I q => ?_⟩
  have kk := I.ok
  have hfr : X.A.frames = some (X.env :: X.outer) := by rw [kk.frames, hst]
  refine wpAny_Try_except ?_
  refine wpAny_mono ((hbd (wHd X.K Wo D l) (X.pn ++ pins) (fun ev t1 => wpAny (model X.prog X.w) X.A (noteFrame ev X.env) (fun _ t2 =>
    wpAny (model X.prog X.w) X.A (setFlight ev none) (fun _ t3 => wpAny (model X.prog X.w) X.A (handleBy ev X.env (hd0 :: hds)) (L2.SP X pins D) X.xe t3) X.xe t2) X.xe t1)
    (fun uu s' xx => ?_) PassesOwn.looking).run [] s σ H D (I.toTry _) q) (fun fl s1 hsp => ?_) (fun _ _ he => he)
  · obtain ⟨p, B, sI, pins', σ', H', cls, d, rfl, J', nb, up, sky, np, os, ag, w⟩ := xx
    have J : Inv X pins σ' H' sI := J'.ofTry kk
    have sky2 : Sky B (X.env :: X.outer) p (Zc cls d) X.env.locals s'.heap := by rw [← hst]; exact sky
    show wpAny (model X.prog X.w) X.A (noteFrame (.ref p) X.env) _ _ _
    refine Sky.land Zc.steady hfr hfm sky2 fun h3 f3 up3 => ?_
    have J3 : Inv X pins σ' H' { s' with heap := h3 } := J.landed nb f3.1 (up.trans up3) os ag
    obtain ⟨o3, v3, ho3, hz3, hd3⟩ := f3.there
    have off : p ∉ frs (X.env :: X.outer) := fun hm => by
      obtain ⟨_, o', e', hnf⟩ := f3.2.2.1.mem hm
      rw [ho3] at e'
      cases e'
      exact hnf _ hd3
    have nL : p ≠ X.env.locals := fun z => off (List.mem_filterMap.mpr ⟨X.env, List.mem_cons_self, by rw [hfm, z]⟩)
    have nF : p ∉ X.fs := fun hm => by
      obtain ⟨e, he, w⟩ := List.mem_filterMap.mp hm
      exact off (List.mem_filterMap.mpr ⟨e, List.mem_cons_of_mem _ he, w⟩)
    have nI : ∀ o, sI.heap.get? p = some o → False := fun o e => by
      have z := nb p o e (by rw [hst]; exact off)
      rw [f3.2.1] at z
      cases z
    have n0 : X.s_0.heap.get? p = none := by
      cases e : X.s_0.heap.get? p with
      | none => rfl
      | some o =>
        obtain ⟨o', z⟩ := J.base.there p o e (by rw [hex]; exact fun z => nomatch z)
        exact (nI o' z).elim
    have S3 := J3.suite ho3 hd3 np nL nF
    have ty3 : PySem.W.Looks (model X.prog X.w) h3 (typeOf (.ref p)) cls := fun _ _ _ _ k q => wpAny_typeOf_ref (k _ _ ho3) (by rw [hz3.1]; exact q)
    have named : ∀ {x : Str} {c : Value} {qn : Pos}, Names X x c → ∀ {Q : Value → Shared → Prop} {E : Value → Shared → Prop}, Q c { s' with heap := h3 } →
        wpAny (model X.prog X.w) (X.A.mark (some (.ref p))) (eval (.Name x qn) X.env) Q E { s' with heap := h3 } := by
      intro x c qn hcn Q E w
      obtain ⟨g1, g2, g3⟩ := hcn
      rcases g3 with g3 | ⟨g3, g4, g5⟩
      · exact ld_glob (X := X.suite p ((p, o3) :: (X.pn ++ pins))) S3 g1 g3 w g2
      · exact ld_blt (X := X.suite p ((p, o3) :: (X.pn ++ pins))) S3 g1 g3 g4 w g5 g2
    have go : ∀ {hds' : List ExceptHandler} {l' : List (Value × HKd)}, HdsA X hds' l' → wHd X.K Wo D l' cls d σ' H' →
        wpAny (model X.prog X.w) X.A (handleBy (.ref p) X.env hds') (L2.SP X pins D) X.xe { s' with heap := h3 } := by
      intro hds' l' hk
      induction hk with
      | nil =>
        intro w
        refine wpAny_handleBy_nil ?_
        obtain ⟨k1, k2, k3, oe, vs, T, oT, ts', he, hz, hd, h1, hr⟩ := id f3
        unfold PySem.passOn
        refine wpAny_bind (wpAny_field he hd h1 ?_)
        rw [if_neg (show ¬ ((Value.ref T == Value.none) = true) by simp)]
        have last : wpAny (model X.prog X.w) X.A (setFlight (.ref p) X.env.frame) (fun _ t4 => wpAny (model X.prog X.w) X.A (throw (.ref p) : Sem Flow) (L2.SP X pins D) X.xe t4) X.xe { s' with heap := h3 } := by
          rw [hfm]
          refine HandSPX.setFlight_upZ f3 fun h4 g4 up4 => wpAny_throw (tk _ _ ?_)
          exact ⟨p, B, sI, pins, σ', H', cls, d, rfl, J, nb, (up.trans up3).trans up4, .inr (.inr (by rw [hst]; exact g4)), np, os, ag, w⟩
        first
          | exact wpAny_bind (wpAny_pure (wpAny_bind last))
          | exact wpAny_bind last
      | @only x c ts b0 suite qn q0 hds2 l2 hc hsu r ih =>
        intro w
        obtain ⟨b, hb1, hyes, hno⟩ := w
        refine wpAny_handleBy_cons (codeAny_handlers_test ?_) (by intro q; cases q)
        have mt3 := PySem.W.exm_one (M := model X.prog X.w) (J3.kIn) ty3 hb1
        refine named hc (mt3.here ?_)
        cases b with
        | true =>
          refine codeAny_handlers_suite (HandSPX.lands_againZ f3 fun h4 f4 up4 => ?_)
          have J4 : Inv X pins σ' H' { s' with heap := h4 } := J.landed nb f4.1 ((up.trans up3).trans up4) os ag
          obtain ⟨o4, v4, ho4, hz4, hd4⟩ := f4.there
          have S4 := J4.suite ho4 hd4 np nL nF
          refine wpAny_mono ((hsu p o4 cls d (X.pn ++ pins) hz4 ⟨_, hd4⟩).run [] _ _ H' _ S4 (hyes rfl p np)) (fun f s6 hsp => ?_) (fun _ _ z => False.elim z)
          cases f with
          | next =>
            obtain ⟨σ6, H6, S6, q6⟩ := hsp
            exact ⟨_, _, S6.unsuite kk, q6⟩
          | brk =>
            obtain ⟨σ6, H6, S6, q6⟩ := hsp
            exact ⟨_, _, S6.unsuite kk, q6⟩
          | cont =>
            obtain ⟨σ6, H6, S6, q6⟩ := hsp
            exact ⟨_, _, S6.unsuite kk, q6⟩
          | ret u =>
            obtain ⟨v6, σ6, H6, S6, r6, q6⟩ := hsp
            exact ⟨_, _, _, S6.unsuite kk, r6, q6⟩
        | false =>
          show wpAny _ X.A (handleBy (.ref p) X.env hds2) _ _ _
          exact ih (hno rfl)
      | @named x n i c ts b0 suite qn q0 hds2 l2 hc hi hln hsu r ih =>
        intro w
        obtain ⟨b, hb1, hyes, hno⟩ := w
        refine wpAny_handleBy_cons (codeAny_handlers_test ?_) (by intro q; cases q)
        have mt3 := PySem.W.exm_one (M := model X.prog X.w) (J3.kIn) ty3 hb1
        refine named hc (mt3.here ?_)
        cases b with
        | true =>
          refine codeAny_handlers_suite_as (HandSPX.lands_againZ f3 fun h4 f4 up4 => ?_)
          have J4 : Inv X pins σ' H' { s' with heap := h4 } := J.landed nb f4.1 ((up.trans up3).trans up4) os ag
          obtain ⟨o4, v4, ho4, hz4, hd4⟩ := f4.there
          have S4 := J4.suite ho4 hd4 np nL nF
          refine store_ok (X := X.suite p ((p, o4) :: (X.pn ++ pins))) (v := .ref p) S4 hND hi (.inl hln) rfl (fun s5 S5 => ?_) (.inr hln)
          refine wpAny_mono ((hsu p o4 cls d (X.pn ++ pins) hz4 ⟨_, hd4⟩).run [] s5 _ H' _ S5 (hyes rfl p np)) (fun f s6 hsp => ?_) (fun _ _ z => False.elim z)
          have end_ : ∀ {σ6 : L2.St} {H6 : Hp} {Q : Shared → Prop}, Inv (X.suite p ((p, o4) :: (X.pn ++ pins))) [] σ6 H6 s6 → (∀ s7, Inv X pins (σ6.set i none) H6 s7 → Q s7) →
              wpAny (model X.prog X.w) X.A (do bindName X.env n .none; unbindBehindTheSuite X.env n q0) (fun _ s7 => Q s7) X.xe s6 := fun {σ6 H6 Q} S6 hq => gone_ok (S6.unsuite kk) hND hi hln hq
          cases f with
          | next =>
            obtain ⟨σ6, H6, S6, q6⟩ := hsp
            exact end_ S6 fun s7 J7 => ⟨_, _, J7, q6⟩
          | brk =>
            obtain ⟨σ6, H6, S6, q6⟩ := hsp
            exact end_ S6 fun s7 J7 => ⟨_, _, J7, q6⟩
          | cont =>
            obtain ⟨σ6, H6, S6, q6⟩ := hsp
            exact end_ S6 fun s7 J7 => ⟨_, _, J7, q6⟩
          | ret u =>
            obtain ⟨v6, σ6, H6, S6, r6, q6⟩ := hsp
            exact end_ S6 fun s7 J7 => ⟨_, _, _, J7, r6, q6⟩
        | false =>
          show wpAny _ X.A (handleBy (.ref p) X.env hds2) _ _ _
          exact ih (hno rfl)
      | @keep x n y i j c qn q0 q1 q2 q3 hds2 l2 hc hi hj hij hln hlr hdn hcd hsw r ih =>
        intro w
        obtain ⟨b, hb1, hyes, hno⟩ := w
        refine wpAny_handleBy_cons (codeAny_handlers_test ?_) (by intro q; cases q)
        have mt3 := PySem.W.exm_one (M := model X.prog X.w) (J3.kIn) ty3 hb1
        refine named hc (mt3.here ?_)
        cases b with
        | true =>
          obtain ⟨C, rfl, hy2⟩ := hyes rfl
          refine codeAny_handlers_suite_as (HandSPX.lands_againZ f3 fun h4 f4 up4 => ?_)
          have J4 : Inv X pins σ' H' { s' with heap := h4 } := J.landed nb f4.1 ((up.trans up3).trans up4) os ag
          obtain ⟨o4, v4, ho4, hz4, hd4⟩ := f4.there
          have S4 := J4.suite ho4 hd4 np nL nF
          refine store_ok (X := X.suite p ((p, o4) :: (X.pn ++ pins))) (v := .ref p) S4 hND hi (.inl hln) rfl (fun s5 S5 => ?_) (.inr hln)
          have su : PSs (X.suite p ((p, o4) :: (X.pn ++ pins))) [.Assign [.Name y q1] (.Name n q2) q3] (tAsg (tVar i) (gName j)) :=
            pss_one (ps_set hND hj (.inl hlr) (pe_var hi (.inl hln) hdn hcd) hsw (.inr hlr))
          have lt : i < σ'.length := by rw [J.len]; exact (List.getElem?_eq_some_iff.mp hi).1
          refine wpAny_mono (su.run [] s5 _ H' { nx := fun σ6 H6 => σ6 = (σ'.set i (some (.ref p))).set j (some (.ref p)) ∧ H6 = H', rt := fun _ _ => False, bk := fun _ _ => False, ct := fun _ _ => False } S5 ?_) (fun fl s6 hs6 => ?_) (fun _ _ z => False.elim z)
          · exact ⟨.ref p, by rw [List.getElem?_set_self lt], rfl, rfl⟩
          · cases fl with
            | next =>
              obtain ⟨σ6, H6, S6, rfl, rfl⟩ := hs6
              obtain ⟨hg6, _⟩ := S6.pin (p, o4) (List.mem_append_left _ List.mem_cons_self)
              have K6 := inv_track (S6.unsuite kk) hg6 hz4 hd4 np n0 nL
                (fun y c' e z => by
                  obtain ⟨v, o, e1, _⟩ := J.cell y c' e
                  rw [z] at e1
                  exact nI o e1)
                (fun q' hq z => by
                  have e1 := (J.pin q' hq).1
                  rw [z] at e1
                  exact nI _ e1)
              exact gone_ok K6 hND hi hln fun s7 J7 => ⟨_, _, J7, hy2 p np⟩
            | brk => obtain ⟨_, _, _, z⟩ := hs6; exact z.elim
            | cont => obtain ⟨_, _, _, z⟩ := hs6; exact z.elim
            | ret u => obtain ⟨_, _, _, _, _, z⟩ := hs6; exact z.elim
        | false =>
          show wpAny _ X.A (handleBy (.ref p) X.env hds2) _ _ _
          exact ih (hno rfl)
    exact go hh w
  · cases fl with
    | next =>
      obtain ⟨σ', H', J', w⟩ := hsp
      exact wpAny_execs_nil ⟨σ', H', J'.ofTry kk, w⟩
    | brk =>
      obtain ⟨σ', H', J', w⟩ := hsp
      exact ⟨σ', H', J'.ofTry kk, w⟩
    | cont =>
      obtain ⟨σ', H', J', w⟩ := hsp
      exact ⟨σ', H', J'.ofTry kk, w⟩
    | ret u =>
      obtain ⟨v, σ', H', J', r', w⟩ := hsp
      exact ⟨v, σ', H', J'.ofTry kk, r', w⟩
end
/-! ### the clauses by values -/
abbrev HF := Str → List (Str × D) → MS
def hdG : List (List (Str × Bool) × HF) → HF
  | [], c, fs, ρ, h => .exc c fs ρ h
  | (t, f) :: r, c, fs, ρ, h => match t.lookup c with
    | some true => f c fs ρ h
    | some false => hdG r c fs ρ h
    | none => .bad
def mTryH (hs : List (List (Str × Bool) × HF)) (b : MS) : MS := fun ρ h => match b ρ h with
  | .exc c fs ρ1 h1 => hdG hs c fs ρ1 h1
  | o => o
def hOnly (s : MS) : HF := fun _ _ => s
def hKeep (i j : Nat) : HF := fun c fs ρ h => match xoOf c fs with
  | some d => .nx (((ρ.set i none).set j (some d)).set i none) h
  | none => .bad
/-- with a name: a text kept in slot k, the exception's field f in slot j -/
def hFld (cs : List Str) (i k j : Nat) (s f : Str) : HF := fun c fs ρ h => match fs with
  | [(f', v)] => if c ∈ cs ∧ f' = f then .nx ((((ρ.set i none).set k (some (.str s))).set j (some v)).set i none) h else .bad
  | _ => .bad
def HsR (X : Cx) (W : WX) (hds : List ExceptHandler) (hs : List (List (Str × Bool) × HF)) : Prop :=
  ∃ l, HdsA X hds l ∧ ∀ (E : Ends) (cls : Value) (d : Option Addr) (σ : L2.St) (H : Hp) (μ : List Addr) (ρ : Slots) (h : MH) (cn : Str) (fs : List (Str × D)),
    SR (gOf X.w X.K) H μ σ ρ → HR (gOf X.w X.K) H μ h → XR (gOf X.w X.K) H μ cls d cn fs → BkS (gOf X.w X.K) H μ (hdG hs cn fs ρ h) E W → wHd X.K W E l cls d σ H
section
variable {X : Cx} {W : WX} {x n y w f s : Str} {b0 : Stmt} {suite body : List Stmt} {qn q0 q1 q2 q3 q4 q5 q6 q7 q8 : Pos} {ms mb : MS} {tab : List (Str × Bool)} {hds : List ExceptHandler} {hd0 : ExceptHandler} {hs : List (List (Str × Bool) × HF)} {i j k kx : Nat} {cs : List Str}
theorem hs_nil : HsR X W [] [] := ⟨[], .nil, fun E cls d σ H μ ρ h cn fs sr hr xr bk => bk cls d σ H μ Mon.refl sr hr xr⟩
theorem hs_only (T : ExT X.K X.mg x tab) (hsu : ∀ (a : Addr) (q : Addr × Obj) (pn : List (Addr × Obj)), PSs (X.suite a (q :: pn)) (b0 :: suite) (tS (gOf X.w X.K) W ms)) (r : HsR X W hds hs) (hg : Gl X x := by rfl) (hdb : (x == ("__debug__" : Str)) = false := by decide) :
    HsR X W (.ExceptHandler (some (.Name x qn)) none (b0 :: suite) q0 :: hds) ((tab, hOnly ms) :: hs) := by
  obtain ⟨D, h1, h2⟩ := T
  obtain ⟨l, r1, r2⟩ := r
  refine ⟨(.ref D, .only fun _ _ _ => tS (gOf X.w X.K) W ms) :: l, .only ⟨hg, hdb, .inl h1⟩ (fun a oe cls d pn _ _ => hsu a (a, oe) pn) r1, fun E cls d σ H μ ρ h cn fs sr hr xr bk => ?_⟩
  obtain ⟨C, rfl, hC, xr'⟩ := id xr
  rw [hdG] at bk
  cases e : tab.lookup cn with
  | none => rw [e] at bk; exact bk.elim
  | some b =>
    rw [e] at bk
    obtain ⟨_, q⟩ := h2 cn b C e hC
    refine ⟨b, q, fun hb p np => ?_, fun hb => ?_⟩
    · subst hb
      exact ⟨ρ, h, μ, sr, hr, bk⟩
    · subst hb
      exact r2 E _ d σ H μ ρ h cn fs sr hr xr bk
theorem ClsX.xf {K : PySem.W.Frag} {C : Addr} (T : ClsX K C) : XfC K C := ⟨T.ga, T.gg, T.sb, T.hd⟩
theorem hs_fld (T : ExT X.K X.mg x tab) (F : FlT X.K f cs) (hND : X.N.Nodup) (r : HsR X W hds hs) (hg : Gl X x := by rfl) (hdb : (x == ("__debug__" : Str)) = false := by decide)
    (hi : X.N[i]? = some n := by rfl) (hk : X.N[k]? = some w := by rfl) (hj : X.N[j]? = some y := by rfl) (hik : i ≠ k := by decide) (hln : X.env.kindOf n = some .local := by rfl) (hlw : X.env.kindOf w = some .local := by rfl) (hlr : X.env.kindOf y = some .local := by rfl)
    (hdn : (n == ("__debug__" : Str)) = false := by decide) (hcd : (n == ("__classdict__" : Str)) = false := by decide)
    (hsw1 : swapsWith (.Constant (.str s) kx q6) (some (.Name w q5)) q7.line X.env = pure false := by rfl) (hsw2 : swapsWith (.Attribute (.Name n q2) f q8) (some (.Name y q1)) q3.line X.env = pure false := by rfl)
    (hab : attributeBase (.Name n q2) f X.env (eval (.Name n q2) X.env) = eval (.Name n q2) X.env := by rfl) :
    HsR X W (.ExceptHandler (some (.Name x qn)) (some n) [.Assign [.Name w q5] (.Constant (.str s) kx q6) q7, .Assign [.Name y q1] (.Attribute (.Name n q2) f q8) q3] q0 :: hds) ((tab, hFld cs i k j s f) :: hs) := by
  obtain ⟨D, h1, h2⟩ := T
  obtain ⟨l, r1, r2⟩ := r
  refine ⟨(.ref D, .named i fun a cls d E σ H => ∃ (σ0 : L2.St) (C dd : Addr) (fv : List (Str × V)) (v : V), σ = σ0.set i (some (.ref a)) ∧ cls = .ref C ∧ XfC X.K C ∧ PySem.W.findIn X.K (.ref C) f = some none ∧ d = some dd ∧ H dd = some (.xd fv) ∧ fv.lookup f = some v ∧
    E.nx (((σ0.set i (some (.ref a))).set k (some (.str s))).set j (some v)) H) :: l, .named ⟨hg, hdb, .inl h1⟩ hi hln (fun a oe cls d pn hz hf => ?_) r1, fun E cls d σ H μ ρ h cn fs sr hr xr bk => ?_⟩
  · refine ⟨fun pins st σ H E I ⟨σ0, C, dd, fv, v, e0, ec, T, hno, ed, e1, e2, q⟩ => ?_⟩
    subst e0
    have lt : i < σ0.length := by
      have := I.len
      rw [List.length_set] at this
      rw [this]
      exact (List.getElem?_eq_some_iff.mp hi).1
    have xf : PE (X.suite a ((a, oe) :: pn)) (.Attribute (.Name n q2) f q8) (tXf a cls d C f (tVar i)) := pe_xf T hno hz hf (pe_var hi (.inl hln) hdn hcd) hab
    have su : PSs (X.suite a ((a, oe) :: pn)) [.Assign [.Name w q5] (.Constant (.str s) kx q6) q7, .Assign [.Name y q1] (.Attribute (.Name n q2) f q8) q3] (tSeq (tAsg (tC (.str s)) (gName k)) (tAsg (tXf a cls d C f (tVar i)) (gName j))) :=
      pss_cons (ps_set hND hk (.inl hlw) pe_str hsw1 (.inr hlw)) (pss_one (ps_set hND hj (.inl hlr) xf hsw2 (.inr hlr)))
    refine su.run pins st _ H E I ?_
    refine ⟨.ref a, ?_, rfl, ec, dd, fv, v, ed, e1, e2, q⟩
    rw [List.getElem?_set_ne (Ne.symm hik), List.getElem?_set_self lt]
  · obtain ⟨C, rfl, hC, xr'⟩ := id xr
    rw [hdG] at bk
    cases e : tab.lookup cn with
    | none => rw [e] at bk; exact bk.elim
    | some b =>
      rw [e] at bk
      obtain ⟨_, q⟩ := h2 cn b C e hC
      refine ⟨b, q, fun hb a np => ?_, fun hb => ?_⟩
      · subst hb
        dsimp only at bk
        unfold hFld at bk
        split at bk
        · rename_i f' dv
          split at bk
          · rename_i q
            obtain ⟨q1, rfl⟩ := q
            obtain ⟨t1, t2⟩ := F cn q1 C hC
            rcases xr' with ⟨z, _⟩ | ⟨dd, fv, _, rfl, e1, e2⟩
            · cases z
            · cases e2 with
              | cons a1 b1 =>
                cases b1
                refine ⟨σ, C, dd, _, _, rfl, rfl, t1.xf, t2, rfl, e1, ?_, bk _ H μ Mon.refl ((((sr.unset i _).set k (.str s)).set j a1).unset i _) hr⟩
                simp [List.lookup]
          · exact bk.elim
        · exact bk.elim
      · subst hb
        exact r2 E _ d σ H μ ρ h cn fs sr hr xr bk
theorem sx_tryH (tk : Takes X W) (hbd : ∀ (W : WX) (pn : List (Addr × Obj)) (xe : Value → Shared → Prop), Takes (X.tr pn xe) W → PSs (X.tr pn xe) body (tS (gOf X.w X.K) W mb))
    (hh : HsR X W (hd0 :: hds) hs) (hND : X.N.Nodup) (hst : X.stack = X.env :: X.outer := by rfl) (hfm : X.env.frame = some X.env.locals := by rfl) (hex : X.ex = [] := by rfl) :
    PS X (.Try body (hd0 :: hds) [] [] q4) (tS (gOf X.w X.K) W (mTryH hs mb)) := by
  obtain ⟨l, r1, r2⟩ := hh
  refine ps_mono (ps_try_hds hst hfm hND tk hex (fun W pn xe t _ => hbd W pn xe t) r1) fun E σ H ⟨ρ, h, μ, sr, hr, bk⟩ => ?_
  refine ⟨ρ, h, μ, sr, hr, ?_⟩
  simp only [mTryH] at bk
  cases e : mb ρ h with
  | exc cn fs ρ1 h1 =>
    rw [e] at bk
    dsimp only at bk
    exact fun cls d σ' H' μ' m sr' hr' xr => r2 E cls d σ' H' μ' ρ1 h1 cn fs sr' hr' xr (BkS.mono m bk)
  | nx _ _ => rw [e] at bk; exact bk
  | rt _ _ => rw [e] at bk; exact bk
  | bk _ _ => rw [e] at bk; exact bk
  | ct _ _ => rw [e] at bk; exact bk
  | bad => rw [e] at bk; exact bk.elim
end
/-! ### walks -/
section
variable {N : SP} {T : D → MH → Prop} {B C : SP} {E : SX} {ρ : Slots} {h : MH} {b s : MS} {hs : List (List (Str × Bool) × HF)} {tab : List (Str × Bool)} {f : HF} {c : Str} {fs : List (Str × D)}
def tryH (hs : List (List (Str × Bool) × HF)) (N : SP) (T : D → MH → Prop) (B C : SP) (E : SX) : SX := fun c fs ρ h => OS (hdG hs c fs ρ h) N T B C E
theorem w_tryH (q : OS (b ρ h) N T B C (tryH hs N T B C E)) : OS (mTryH hs b ρ h) N T B C E := by
  unfold mTryH
  cases e : b ρ h with
  | exc c fs ρ1 h1 => rw [e, OS_exc] at q; exact q
  | nx _ _ => rw [e, OS_nx] at q; exact w_nx q
  | rt _ _ => rw [e, OS_rt] at q; exact w_rt q
  | bk _ _ => rw [e, OS_bk] at q; exact w_bk q
  | ct _ _ => rw [e, OS_ct] at q; exact w_ct q
  | bad => rw [e, OS_bad] at q; exact q.elim
theorem w_hdT (l : tab.lookup c = some true) (q : OS (f c fs ρ h) N T B C E) : OS (hdG ((tab, f) :: hs) c fs ρ h) N T B C E := by rw [hdG, l]; exact q
theorem w_hdF (l : tab.lookup c = some false) (q : OS (hdG hs c fs ρ h) N T B C E) : OS (hdG ((tab, f) :: hs) c fs ρ h) N T B C E := by rw [hdG, l]; exact q
end
end Mi
namespace Mi
open PySem L2
def m_counter_e5d84 : List D → MH → R D := mFun 3 6
 (mSeq (mAsg 3 (mCall dTuple (mCons (mLc (mRange1 (mVar 1)) (mgName 4) (mYes) (mCall dTuple (mCons (mLc (mRange1 (mVar 1)) (mgName 5) (mYes) (mBin dMod (mBin dAdd (mVar 4) (mC (.int 1))) (mVar 1)) [5]) (mNil))) [4]) (mNil))))
 (mRet (mTup (mCons (mTup (mCons (mVar 0) (mNil))) (mCons (mTup (mNil)) (mCons (mTup (mCons (mC (.int 0)) (mNil))) (mCons (mVar 3) (mCons (mCall dTuple (mCons (mVar 2) (mNil))) (mNil)))))))))
def m_answer_cd828 : List D → MH → R D := mFun 4 8
 (mSeq (mAsg 4 (mC (.str (Str.ofString "told"))))
 (mSeq (mAsg 5 (mC (.str (Str.ofString ""))))
 (mSeq (mAsg 6 (mC .non))
 (mSeq (mTryH (([((Str.ofString "NoForm"), true), ((Str.ofString "TooMany"), false)], hFld [(Str.ofString "NoForm")] 7 4 5 (Str.ofString "no form") (Str.ofString "form")) :: (([((Str.ofString "NoForm"), false), ((Str.ofString "TooMany"), true)], hOnly (mAsg 4 (mC (.str (Str.ofString "too many"))))) :: [])) (mAsg 6 (mCall (m_each_is_49549) (mCons (mVar 0) (mCons (mVar 1) (mCons (mVar 2) (mCons (mVar 3) (mNil))))))))
 (mRet (mTup (mCons (mVar 4) (mCons (mVar 5) (mCons (mVar 6) (mNil))))))))))
def m_size_ebd69 : List D → MH → R D := mFun 1 3
 (mSeq (mAsg 1 (mLst (mNil)))
 (mSeq (mIf (mNot (mB (mIsi "tuple" (mVar 0))))
 (mRet (mC (.int 0)))
 (mSkip))
 (mSeq (mFor (mIter (mVar 0)) (mgName 2)
 (mIf (mB (mBin dEq (mCall dLen (mCons (mVar 2) (mNil))) (mC (.int 1))))
 (mDrop (mMeth isListD dAppend (mVar 1) (mCons (mC (.int 1)) (mNil))))
 (mDrop (mMeth isListD dAppend (mVar 1) (mCons (mBin dAdd (mBin dIx (mVar 1) (mBin dIx (mVar 2) (mC (.int 0)))) (mBin dIx (mVar 1) (mBin dIx (mVar 2) (mC (.int 1))))) (mNil))))))
 (mRet (mBin dIx (mVar 1) (mBin dSub (mCall dLen (mCons (mVar 1) (mNil))) (mC (.int 1))))))))
def m_of_its_own_36e00 : List D → MH → R D := mFun 4 6
 (mSeq (mAsg 4 (mC .non))
 (mSeq (mTryK [((Str.ofString "NoForm"), true), ((Str.ofString "TooMany"), true)] 5 4 (mDrop (mCall (m_each_is_49549) (mCons (mVar 0) (mCons (mVar 1) (mCons (mVar 2) (mCons (mVar 3) (mNil))))))))
 (mSeq (mIf (mB (mIsX [((Str.ofString "NoForm"), false), ((Str.ofString "TooMany"), false)] (mVar 4)))
 (mRet (mC (.bl false)))
 (mSkip))
 (mRet (mAndV (mIsX [((Str.ofString "NoForm"), true), ((Str.ofString "TooMany"), true)] (mVar 4)) (mBin dNe (mIsX [((Str.ofString "NoForm"), true), ((Str.ofString "TooMany"), false)] (mVar 4)) (mIsX [((Str.ofString "NoForm"), false), ((Str.ofString "TooMany"), true)] (mVar 4))))))))
def m_law_78873 : List D → MH → R D := mFun 1 18
 (mSeq (mAsg 1 (mCall (m_names_53c1e) (mCons (mCall (m_cell_at_2c4cb) (mCons (mVar 0) (mCons (mC (.int 0)) (mNil)))) (mCons (mC (.int 4)) (mNil)))))
 (mSeq (mAsg 2 (mBin dAdd (mC (.int 1)) (mBin dMod (mCall (m_cell_at_2c4cb) (mCons (mVar 0) (mCons (mC (.int 1)) (mNil)))) (mC (.int 16)))))
 (mSeq (mAsg 3 (mBin dAdd (mC (.int 1)) (mBin dMod (mCall (m_cell_at_2c4cb) (mCons (mVar 0) (mCons (mC (.int 2)) (mNil)))) (mC (.int 16)))))
 (mSeq (mIf (mB (mBin dEq (mBin dMod (mCall (m_cell_at_2c4cb) (mCons (mVar 0) (mCons (mC (.int 7)) (mNil)))) (mC (.int 2))) (mC (.int 1))))
 (mSeq (mAsg 13 (mLst (mCons (mTup (mCons (mC (.int 5)) (mCons (mC (.int 13)) (mNil)))) (mCons (mTup (mCons (mC (.int 13)) (mCons (mC (.int 5)) (mNil)))) (mCons (mTup (mCons (mC (.int 7)) (mCons (mC (.int 9)) (mNil)))) (mCons (mTup (mCons (mC (.int 64)) (mCons (mC (.int 1)) (mNil)))) (mCons (mTup (mCons (mC (.int 1)) (mCons (mC (.int 64)) (mNil)))) (mCons (mTup (mCons (mC (.int 32)) (mCons (mC (.int 21)) (mNil)))) (mCons (mTup (mCons (mC (.int 6)) (mCons (mC (.int 11)) (mNil)))) (mCons (mTup (mCons (mC (.int 16)) (mCons (mC (.int 5)) (mNil)))) (mNil)))))))))))
 (mAsgT (mgTup (mgCons (mgName 2) (mgCons (mgName 3) (mgNil)))) (mBin dIx (mVar 13) (mBin dMod (mCall (m_cell_at_2c4cb) (mCons (mVar 0) (mCons (mC (.int 1)) (mNil)))) (mC (.int 8))))))
 (mSkip))
 (mSeq (mAsg 4 (mBin dMod (mCall (m_cell_at_2c4cb) (mCons (mVar 0) (mCons (mC (.int 3)) (mNil)))) (mVar 2)))
 (mSeq (mAsg 5 (mBin dMod (mCall (m_cell_at_2c4cb) (mCons (mVar 0) (mCons (mC (.int 4)) (mNil)))) (mVar 3)))
 (mSeq (mAsg 6 (mCall (m_counter_e5d84) (mCons (mBin dIx (mVar 1) (mC (.int 0))) (mCons (mVar 2) (mCons (mLc (mRange1 (mVar 2)) (mgName 17) (mYes) (mCall dInt (mCons (mBin dEq (mVar 17) (mVar 4)) (mNil))) [17]) (mNil))))))
 (mSeq (mAsg 7 (mCall (m_counter_e5d84) (mCons (mBin dIx (mVar 1) (mC (.int 1))) (mCons (mVar 3) (mCons (mLc (mRange1 (mVar 3)) (mgName 17) (mYes) (mCall dInt (mCons (mBin dNe (mVar 17) (mVar 5)) (mNil))) [17]) (mNil))))))
 (mSeq (mAsg 8 (mBin dIx (mVar 1) (mBin dIx (mLst (mCons (mC (.int 0)) (mCons (mC (.int 0)) (mCons (mC (.int 0)) (mCons (mC (.int 2)) (mCons (mC (.int 2)) (mNil))))))) (mBin dMod (mCall (m_cell_at_2c4cb) (mCons (mVar 0) (mCons (mC (.int 5)) (mNil)))) (mC (.int 5))))))
 (mSeq (mAsg 9 (mBin dIx (mVar 1) (mBin dIx (mLst (mCons (mC (.int 1)) (mCons (mC (.int 1)) (mCons (mC (.int 1)) (mCons (mC (.int 3)) (mCons (mC (.int 2)) (mNil))))))) (mBin dMod (mCall (m_cell_at_2c4cb) (mCons (mVar 0) (mCons (mC (.int 6)) (mNil)))) (mC (.int 5))))))
 (mSeq (mAsgT (mgTup (mgCons (mgName 14) (mgCons (mgName 15) (mgCons (mgName 16) (mgNil))))) (mCall (m_answer_cd828) (mCons (mVar 6) (mCons (mVar 8) (mCons (mVar 7) (mCons (mVar 9) (mNil)))))))
 (mSeq (mIf (mB (mBin dNe (mVar 8) (mBin dIx (mVar 1) (mC (.int 0)))))
 (mRet (mAndV (mBin dEq (mVar 14) (mC (.str (Str.ofString "no form")))) (mAndV (mBin dEq (mVar 15) (mVar 8)) (mCall (m_of_its_own_36e00) (mCons (mVar 6) (mCons (mVar 8) (mCons (mVar 7) (mCons (mVar 9) (mNil)))))))))
 (mSkip))
 (mSeq (mIf (mB (mBin dNe (mVar 9) (mBin dIx (mVar 1) (mC (.int 1)))))
 (mRet (mAndV (mBin dEq (mVar 14) (mC (.str (Str.ofString "no form")))) (mAndV (mBin dEq (mVar 15) (mVar 9)) (mCall (m_of_its_own_36e00) (mCons (mVar 6) (mCons (mVar 8) (mCons (mVar 7) (mCons (mVar 9) (mNil)))))))))
 (mSkip))
 (mSeq (mAsg 10 (mVar 2))
 (mSeq (mWhile 1000 (mB (mBin dNe (mBin dMod (mVar 10) (mVar 3)) (mC (.int 0))))
 (mAsg 10 (mBin dAdd (mVar 10) (mVar 2))))
 (mSeq (mIf (mB (mBin dGt (mVar 10) (mC (.int 64))))
 (mRet (mAndV (mBin dEq (mVar 14) (mC (.str (Str.ofString "too many")))) (mCall (m_of_its_own_36e00) (mCons (mVar 6) (mCons (mVar 8) (mCons (mVar 7) (mCons (mVar 9) (mNil))))))))
 (mSkip))
 (mSeq (mAsg 11 (mLc (mRange1 (mVar 10)) (mgName 17) (mYes) (mTup (mCons (mBin dMod (mVar 17) (mVar 2)) (mCons (mBin dMod (mVar 17) (mVar 3)) (mCons (mBin dAdd (mVar 17) (mC (.int 1))) (mNil))))) [17]))
 (mSeq (mIf (mOr (mB (mBin dNe (mVar 14) (mC (.str (Str.ofString "told"))))) (mB (mBin dNe (mBin dIx (mVar 16) (mC (.int 1))) (mCall dSortQ (mCons (mVar 11) (mNil))))))
 (mRet (mC (.bl false)))
 (mSkip))
 (mSeq (mAsg 12 (mLc (mRange1 (mVar 10)) (mgName 17) (mAnd (mB (mBin dEq (mBin dMod (mVar 17) (mVar 2)) (mVar 4))) (mB (mBin dEq (mBin dMod (mVar 17) (mVar 3)) (mVar 5)))) (mVar 17) [17]))
 (mSeq (mIf (mB (mBin dEq (mVar 12) (mLst (mNil))))
 (mRet (mBin dIsN (mBin dIx (mVar 16) (mC (.int 0))) (mC .non)))
 (mSkip))
 (mRet (mBin dEq (mCall (m_size_ebd69) (mCons (mBin dIx (mVar 16) (mC (.int 0))) (mNil))) (mBin dAdd (mBin dIx (mVar 12) (mC (.int 0))) (mC (.int 1)))))))))))))))))))))))))
end Mi
namespace Mi
open PySem L2
local macro_rules | `(tactic| walk_at "gl") => `(tactic| first
  | assumption
  | (refine Own.atL (h0 := ?_) (L := ?_) ?_ 0 ?_; rotate_left; rotate_left; assumption; rfl)
  | (refine Own.atL (h0 := ?_) (L := ?_) ?_ 1 ?_; rotate_left; rotate_left; assumption; rfl)
  | (refine Own.atL (h0 := ?_) (L := ?_) ?_ 2 ?_; rotate_left; rotate_left; assumption; rfl)
  | (refine Own.atL (h0 := ?_) (L := ?_) ?_ 3 ?_; rotate_left; rotate_left; assumption; rfl)
  | (refine Own.atL (h0 := ?_) (L := ?_) ?_ 4 ?_; rotate_left; rotate_left; assumption; rfl)
  | (refine Own.atL (h0 := ?_) (L := ?_) ?_ 5 ?_; rotate_left; rotate_left; assumption; rfl)
  | (refine Own.atL (h0 := ?_) (L := ?_) ?_ 6 ?_; rotate_left; rotate_left; assumption; rfl)
  | (refine Own.atL (h0 := ?_) (L := ?_) ?_ 7 ?_; rotate_left; rotate_left; assumption; rfl)
  | (refine Own.atL (h0 := ?_) (L := ?_) ?_ 8 ?_; rotate_left; rotate_left; assumption; rfl)
  | (refine Own.atL (h0 := ?_) (L := ?_) ?_ 9 ?_; rotate_left; rotate_left; assumption; rfl)
  | (refine Own.getL (h0 := ?_) (L := ?_) ?_ ?_; rotate_left; rotate_left; assumption; assumption))
local macro_rules | `(tactic| walk_at "il") => `(tactic| first
  | (refine Own.isL (h0 := ?_) (L := ?_) (l := ?_) ?_ 0 ?_; rotate_left; rotate_left; rotate_left; assumption; rfl)
  | (refine Own.isL (h0 := ?_) (L := ?_) (l := ?_) ?_ 1 ?_; rotate_left; rotate_left; rotate_left; assumption; rfl)
  | (refine Own.isL (h0 := ?_) (L := ?_) (l := ?_) ?_ 2 ?_; rotate_left; rotate_left; rotate_left; assumption; rfl)
  | (refine Own.isL (h0 := ?_) (L := ?_) (l := ?_) ?_ 3 ?_; rotate_left; rotate_left; rotate_left; assumption; rfl)
  | (refine Own.isL (h0 := ?_) (L := ?_) (l := ?_) ?_ 4 ?_; rotate_left; rotate_left; rotate_left; assumption; rfl)
  | (refine Own.isL (h0 := ?_) (L := ?_) (l := ?_) ?_ 5 ?_; rotate_left; rotate_left; rotate_left; assumption; rfl)
  | (refine Own.isL (h0 := ?_) (L := ?_) (l := ?_) ?_ 6 ?_; rotate_left; rotate_left; rotate_left; assumption; rfl)
  | (refine Own.isL (h0 := ?_) (L := ?_) (l := ?_) ?_ 7 ?_; rotate_left; rotate_left; rotate_left; assumption; rfl)
  | (refine Own.isL (h0 := ?_) (L := ?_) (l := ?_) ?_ 8 ?_; rotate_left; rotate_left; rotate_left; assumption; rfl)
  | (refine Own.isL (h0 := ?_) (L := ?_) (l := ?_) ?_ 9 ?_; rotate_left; rotate_left; rotate_left; assumption; rfl))
local macro_rules | `(tactic| walk_at "bd") => `(tactic| first | assumption | omega | (simp; done) | (simp; omega) | (simp [*]; done) | (simp [*]; omega))
local macro_rules | `(tactic| walk_at "w") => `(tactic| first
  | with_reducible refine w_seq ?_
  | with_reducible refine w_asg ?_
  | with_reducible refine w_cons ?_
  | with_reducible refine w_nil ?_
  | with_reducible refine w_c ?_
  | ((with_reducible refine w_var (d := ?_) ?_ ?_); rotate_left; rfl)
  | with_reducible refine w_bin ?_
  | with_reducible refine w_call ?_
  | with_reducible refine w_if ?_
  | with_reducible refine w_B ?_
  | with_reducible refine w_unB ?_
  | with_reducible refine w_ret ?_
  | with_reducible refine w_drop ?_
  | with_reducible refine w_skip ?_
  | with_reducible refine w_eq (dAdd_int _ _ _) ?_
  | with_reducible refine w_eq (dSub_int _ _ _) ?_
  | with_reducible refine w_eq (dEq_int _ _ _) ?_
  | with_reducible refine w_eq (dEq_str _ _ _) ?_
  | with_reducible refine w_eq (dNe_strs _ _ _) ?_
  | with_reducible refine w_eq (dEq_bls _ _ _) ?_
  | with_reducible refine w_eq (dNe_bls _ _ _) ?_
  | with_reducible refine w_eq (dLt_int _ _ _) ?_
  | with_reducible refine w_eq (dLe_int _ _ _) ?_
  | with_reducible refine w_eq (dGt_int _ _ _) ?_
  | with_reducible refine w_eq (dGe_int _ _ _) ?_
  | with_reducible refine w_eq (dNe_int _ _ _) ?_
  | ((with_reducible refine w_mod ?_ ?_); (first | assumption | decide | omega))
  | ((with_reducible refine w_fdiv ?_ ?_); (first | assumption | decide | omega))
  | ((with_reducible refine w_mulS ?_ ?_); (first | decide | omega))
  | ((with_reducible refine w_addS ?_ ?_); (first | assumption | decide | omega))
  | ((with_reducible refine w_lenS ?_ ?_); (first | assumption | decide | omega))
  | ((with_reducible refine w_slS ?_ ?_); (first | assumption | decide | omega))
  | with_reducible refine w_lenTm ?_
  | with_reducible refine w_eq (dLen_tup _ _) ?_
  | with_reducible refine w_eq (dSl_tup _ _ _ _) ?_
  | with_reducible refine w_eq (dMax_ev _ _ _) ?_
  | with_reducible refine w_eq (dMin_ev _ _ _) ?_
  | with_reducible refine w_eq (dAbs_ev _ _) ?_
  | with_reducible refine w_not ?_
  | with_reducible refine w_and ?_
  | with_reducible refine w_or ?_
  | with_reducible refine br_n ?_
  | with_reducible refine br_tt ?_
  | with_reducible refine br_ff ?_
  | ((with_reducible refine br_dt ?_ ?_); (first | assumption | omega | rfl))
  | ((with_reducible refine br_df ?_ ?_); (first | assumption | omega))
  | with_reducible refine w_tup ?_
  | ((with_reducible refine w_toTup ?_ ?_); exact (by simp))
  | with_reducible refine w_lst ?_
  | with_reducible refine w_lc ?_
  | with_reducible refine w_for ?_
  | with_reducible refine w_range1 ?_
  | with_reducible refine w_range2 ?_
  | ((with_reducible refine w_dR1 ?_ ?_); (first | decide | omega))
  | ((with_reducible refine w_dR2 ?_ ?_); (first | decide | omega))
  | with_reducible refine w_iter ?_
  | with_reducible refine w_eq (iter1_tup _ _) ?_
  | with_reducible refine w_eq (iter1_str _ _) ?_
  | with_reducible refine w_sl ?_
  | with_reducible refine w_no ?_
  | with_reducible refine w_some ?_
  | with_reducible refine w_unI ?_
  | with_reducible refine w_meth ?_
  | with_reducible refine w_isi ?_
  | with_reducible refine w_zip ?_
  | with_reducible refine w_ifE ?_
  | with_reducible refine w_andV ?_
  | with_reducible refine w_orV ?_
  | with_reducible refine w_notV ?_
  | with_reducible refine w_andK ?_
  | with_reducible refine w_orK ?_
  | with_reducible refine w_notK ?_
  | with_reducible refine w_revL ?_
  | with_reducible refine w_listRg1 ?_
  | with_reducible refine w_tindex ?_
  | with_reducible refine w_setIx ?_
  | with_reducible refine w_un ?_
  | with_reducible refine w_rev1 ?_
  | with_reducible refine w_rev2 ?_
  | with_reducible refine w_chain ?_
  | with_reducible refine w_chK ?_
  | with_reducible refine w_retN ?_
  | with_reducible refine w_brk ?_
  | with_reducible refine w_cont ?_
  | with_reducible refine w_asgT ?_
  | with_reducible refine w_eq (isi_str_str _ _) ?_
  | with_reducible refine w_eq (isi_int_int _ _) ?_
  | with_reducible refine w_eq (isi_tup_tup _ _) ?_
  | with_reducible refine w_eq (isi_bool_int _ _) ?_
  | with_reducible refine w_eq (isi_str_int _ _) ?_
  | ((with_reducible refine w_lenLm (α := ?_) (f := ?_) (l := ?_) ?_ ?_); rotate_left; rotate_left; rotate_left; walk_at "gl")
  | ((with_reducible refine w_lenL (l := ?_) ?_ ?_); rotate_left; walk_at "gl")
  | ((with_reducible refine w_iterL (l := ?_) ?_ ?_); rotate_left; walk_at "gl"; dsimp only)
  | ((with_reducible refine w_tupL (l := ?_) ?_ ?_); rotate_left; walk_at "gl")
  | ((with_reducible refine w_ixT (d := ?_) ?_ ?_); rotate_left; (first | with_reducible assumption | rfl))
  | ((with_reducible refine w_ixL (l := ?_) (d := ?_) ?_ ?_ ?_); rotate_left; rotate_left; walk_at "gl"; (first | with_reducible assumption | rfl))
  | ((with_reducible refine w_addT ?_ ?_); walk_at "bd")
  | ((with_reducible refine ⟨?_, ?_⟩); (with_reducible (show isListD (.ref _) _ = true)); walk_at "il")
  | with_reducible refine w_tryK ?_
  | with_reducible refine w_raise ?_
  | with_reducible refine w_raise0 ?_
  | with_reducible refine w_isX ?_
  | ((with_reducible refine w_isXK (k := ?_) ?_ ?_); rotate_left; (first | with_reducible exact lkA | (apply lkB; decide +kernel; exact lkA) | (apply lkB; decide +kernel; apply lkB; decide +kernel; exact lkA) | (apply lkB; decide +kernel; apply lkB; decide +kernel; apply lkB; decide +kernel; exact lkA)))
  | with_reducible refine w_xf ?_
  | ((with_reducible refine w_xfK ?_ ?_ ?_); (exact List.mem_cons_self); (decide))
  | with_reducible refine w_eq (isN_xo _) ?_
  | with_reducible refine w_eq (dNeg_int _ _) ?_)
local macro_rules | `(tactic| walk_at "go") => `(tactic| (repeat (walk_at "w")); try dsimp only [List.set])
local macro_rules | `(tactic| walk_at "fn") => `(tactic| ((refine w_fun ?_); simp only [startD, List.map_cons, List.map_nil, List.reduceReplicate, Nat.reduceSub, List.cons_append, List.nil_append]; walk_at "go"))
section
open PySem L2

local macro_rules | `(tactic| walk_at "lk") => `(tactic| first | with_reducible exact lkA | (apply lkB; decide +kernel; walk_at "lk"))
local macro_rules | `(tactic| walk_at "mk") => `(tactic| first | with_reducible exact mkA | (apply mkB; decide +kernel; walk_at "mk"))
local macro_rules | `(tactic| walk_at "fk") => `(tactic| first | with_reducible exact fkA | exact fkN | (apply fkB; decide +kernel; walk_at "fk"))
local macro_rules | `(tactic| walk_at "cs") => `(tactic| first | exact List.mem_cons_self | (apply List.mem_cons_of_mem; walk_at "cs"))
local macro_rules | `(tactic| walk_at "w") => `(tactic| first
  | with_reducible refine w_fld ?_
  | ((with_reducible refine w_fldK (c := ?_) (fs := ?_) (v := ?_) ?_ ?_ ?_ ?_); rotate_left; rotate_left; rotate_left; (with_reducible assumption); (walk_at "cs"); (walk_at "fk"))
  | with_reducible refine w_setFld ?_
  | with_reducible refine w_new ?_
  | with_reducible refine w_methI ?_
  | ((with_reducible refine w_methK (c := ?_) (fs := ?_) (F := ?_) ?_ ?_ ?_ ?_); rotate_left; rotate_left; rotate_left; (with_reducible assumption); (walk_at "mk"); (walk_at "fk"))
  | with_reducible refine w_isC ?_
  | ((with_reducible refine w_isCK (c := ?_) (fs := ?_) (k := ?_) ?_ ?_ ?_); rotate_left; rotate_left; rotate_left; (with_reducible assumption); (walk_at "lk"))
  | with_reducible refine w_callD ?_
  | with_reducible refine w_mDSet ?_
  | with_reducible refine w_eq (nN_non _) ?_
  | with_reducible refine w_eq (nN_int _ _) ?_
  | with_reducible refine w_eq (nN_tup _ _) ?_
  | with_reducible refine w_eq (nN_ref _ _) ?_
  | with_reducible refine w_eq (iN_non _) ?_
  | with_reducible refine w_eq (iN_int _ _) ?_
  | with_reducible refine w_eq (iN_tup _ _) ?_
  | with_reducible refine w_eq (iN_ref _ _) ?_)
theorem pyOf_L53 {n : Nat} {l : List D} {i : Nat} {h : MH} (hl : plns n l) (hn : n ≤ 58) (e : getL h i = some l) : pyOf 60 h (.ref i) = some (.list (pyDs l)) := by
  show ((getL h i).bind fun l => (allSome (l.map (pyOf 59 h))).map PyData.list) = _
  rw [e]
  show (allSome (l.map (pyOf 59 h))).map PyData.list = _
  rw [pyOfs_pln n 59 h l hl (by omega)]
  rfl
theorem shaped_L53 {n : Nat} {l : List D} (hl : plns n l) (hn : n ≤ 58) : SeqAt.shaped (.list (pyDs l)) = true := by
  obtain ⟨h3, h4⟩ := pys_lay n l hl
  unfold SeqAt.shaped
  rw [show (PyData.list (pyDs l)).canLay0 = PyData.canLayAll0 (pyDs l) by simp [PyData.canLay0], h3]
  have : (PyData.list (pyDs l)).depth ≤ 64 := by simp only [PyData.depth]; omega
  simpa using this
theorem eqD_L53 {n : Nat} {l m : List D} {i j : Nat} {h : MH} (hl : plns n l) (hm : plns n m) (hn : n ≤ 58) (ei : getL h i = some l) (ej : getL h j = some m) : eqD (.ref i) (.ref j) h = some (decide (l = m)) := by
  unfold eqD
  simp only [scalD]
  rw [pyOf_L53 hl hn ei, pyOf_L53 hm hn ej]
  simp only
  rw [if_pos ⟨shaped_L53 hl hn, shaped_L53 hm hn⟩]
  simp only [PyData.eqv]
  rw [py_eqvs n n l m hl hm]
  simp
theorem pln_tris : ∀ l : List (Int × Int × Int), plns 5 (l.map triD)
  | [] => by rw [List.map_nil, plns]; trivial
  | p :: l => by
    rw [List.map_cons, plns]
    refine ⟨?_, pln_tris l⟩
    simp [triD, pln, plns]
theorem pln_ints53 : ∀ l : List Int, plns 5 (l.map D.int)
  | [] => by rw [List.map_nil, plns]; trivial
  | p :: l => by
    rw [List.map_cons, plns]
    refine ⟨?_, pln_ints53 l⟩
    simp [pln]
theorem meC {f : Str} {a : Nat} {mk : List Int} (ha : 0 < a) (hl : mk.length = a) (hk : ∀ z ∈ mk, 0 ≤ z) : Me [f] [] [0] (cntr a) mk :=
  ⟨cntr_rows, rfl, fun z hz => by rw [List.mem_singleton] at hz; rw [cntr_len]; omega, by rw [cntr_len]; exact hl, hk, fun x hx => (by cases hx), by simp⟩
theorem k_counter53 {f : Str} {a : Nat} (ha : 1 ≤ a ∧ a ≤ 64) {mk : List Int} {jm : Nat} {h : MH} (gm : getL h jm = some (mk.map .int)) :
    Sat (m_counter_e5d84 [.str f, .int (a : Int), .ref jm] h) (fun y h' => h <+: h' ∧ y = gmD [f] [] [0] (cntr a) mk) noX := by
  walk_at "fn"
  refine o_compG (fun k y _ => y = .tup (((List.range a).map fun _ => (((k + 1) % a : Nat) : Int)).map .int)) (Own.nil h) (by rw [rangeD_length]; omega) (fun _ _ => rfl) (fun _ _ _ _ _ q => q) ?_ ?_
  · intro p d h1 hd hp1 _
    obtain ⟨hp, rfl⟩ := rangeD_get hd
    refine ⟨_, rfl, ?_⟩
    dsimp only [wipeD, List.set]
    rw [Int.zero_add]
    walk_at "go"
    refine o_comp (fun _ y => y = .int (((p + 1) % a : Nat) : Int)) (Own.nil h1) (by rw [rangeD_length]; omega) (fun _ _ => rfl) ?_ ?_
    · intro q d h2 hd2 hp2
      obtain ⟨hq, rfl⟩ := rangeD_get hd2
      refine ⟨_, rfl, ?_⟩
      dsimp only [wipeD, List.set]
      rw [Int.zero_add]
      walk_at "go"
      exact ⟨rfl, by rw [Int.natCast_emod]; rfl⟩
    intro ys hyl hys i h2 o2
    have := maps_of (f := fun _ => D.int (((p + 1) % a : Nat) : Int)) (n := a) (by rw [hyl, rangeD_length]; omega) hys
    subst this
    walk_at "go"
    exact ⟨o2.pre, by rw [List.map_map]; rfl⟩
  intro ys h1 hyl hys o1
  have := maps_of (f := fun k => D.tup (((List.range a).map fun _ => (((k + 1) % a : Nat) : Int)).map .int)) (n := a) (by rw [hyl, rangeD_length]; omega) hys
  subst this
  have gm1 := pre_getL o1.pre gm
  walk_at "go"
  refine ⟨o1.pre, ?_⟩
  unfold gmD cntr
  rw [List.map_map]
  rfl
section
variable {f1 f2 f f' : Str} {a b : Nat} {mk1 mk2 : List Int}
/-- what answer tells -/
theorem k_answerNo53 {h : MH} (hn : f ∉ [f1] ∨ f' ∉ [f2]) :
    Sat (m_answer_cd828 [gmD [f1] [] [0] (cntr a) mk1, .str f, gmD [f2] [] [0] (cntr b) mk2, .str f'] h) (fun y h' => h' = h ∧ y = .tup [.str (Str.ofString "no form"), .str (if f ∈ [f1] then f' else f), .non]) noX := by
  have hea := fun h => k_eachNo (h := h) (pf := m_pairs_of_cf4b8) (n1 := []) (n2 := []) (s1 := [0]) (s2 := [0]) (sp1 := cntr a) (sp2 := cntr b) (k1 := mk1) (k2 := mk2) hn
  rw [← each_49549] at hea
  generalize gmD [f1] [] [0] (cntr a) mk1 = M1 at *
  generalize gmD [f2] [] [0] (cntr b) mk2 = M2 at *
  walk_at "fn"
  refine w_tryH ?_
  walk_at "go"
  refine (hea h).monoE (fun _ _ z => z.elim) ?_
  rintro x l h1 ⟨rfl, rfl, rfl⟩
  unfold tryH
  refine w_hdT (by walk_at "lk") ?_
  unfold hFld
  dsimp only
  rw [if_pos ⟨List.mem_singleton.mpr rfl, rfl⟩]
  refine w_nx ?_
  dsimp only [List.set]
  walk_at "go"
  exact ⟨rfl, rfl⟩
theorem k_ownNo53 {h : MH} (hn : f ∉ [f1] ∨ f' ∉ [f2]) :
    Sat (m_of_its_own_36e00 [gmD [f1] [] [0] (cntr a) mk1, .str f, gmD [f2] [] [0] (cntr b) mk2, .str f'] h) (fun y h' => y = .bl true) noX := by
  have hea := fun h => k_eachNo (h := h) (pf := m_pairs_of_cf4b8) (n1 := []) (n2 := []) (s1 := [0]) (s2 := [0]) (sp1 := cntr a) (sp2 := cntr b) (k1 := mk1) (k2 := mk2) hn
  rw [← each_49549] at hea
  generalize gmD [f1] [] [0] (cntr a) mk1 = M1 at *
  generalize gmD [f2] [] [0] (cntr b) mk2 = M2 at *
  walk_at "fn"
  refine (hea h).monoE (fun _ _ z => z.elim) ?_
  rintro x l h1 ⟨rfl, rfl, rfl⟩
  refine tryE_t (by walk_at "lk") rfl ?_
  dsimp only [List.set]
  walk_at "go"
  rfl
section
variable {m : Nat} (C : Cm a b m) (l1 : mk1.length = a) (l2 : mk2.length = b) (h1 : ∀ z ∈ mk1, 0 ≤ z) (h2 : ∀ z ∈ mk2, 0 ≤ z)
include C l1 l2 h1 h2
theorem k_each53 (h : MH) : Sat (m_each_is_49549 [gmD [f1] [] [0] (cntr a) mk1, .str f1, gmD [f2] [] [0] (cntr b) mk2, .str f2] h) (fun d h' => h <+: h' ∧ ∃ F ps t x jp, EaX [] [] [0] [0] (cntr a) (cntr b) mk1 mk2 0 0 F ps t x ∧ d = .tup [x, .ref jp] ∧ h'[jp]? = some (.lst ((sortQ (trX ps t)).map triD)))
      (fun x fs h' => h <+: h' ∧ x = Str.ofString "TooMany" ∧ fs = [] ∧ 64 < m) := by
  have g1 := meC (f := f1) C.ha l1 h1
  have g2 := meC (f := f2) C.hb l2 h2
  rw [each_49549]
  refine (k_eachX g1 g2 (pf_41 g1 g2) (j1 := 0) (j2 := 0) (by rw [fidx]; simp) (by rw [fidx]; simp) (by simp)).monoE ?_ ?_
  · rintro y h3 ⟨p, F, ps, t, x, jp, E, rfl, _, g⟩
    exact ⟨p, F, ps, t, x, jp, E, rfl, g⟩
  · rintro x l h3 ⟨p, rfl, rfl, N⟩
    exact ⟨p, rfl, rfl, no_gC C N⟩
theorem k_answer53 {h : MH} : Sat (m_answer_cd828 [gmD [f1] [] [0] (cntr a) mk1, .str f1, gmD [f2] [] [0] (cntr b) mk2, .str f2] h) (fun y h' => h <+: h' ∧ ((64 < m ∧ y = .tup [.str (Str.ofString "too many"), .str (Str.ofString ""), .non]) ∨
      ∃ F ps t x jp, EaX [] [] [0] [0] (cntr a) (cntr b) mk1 mk2 0 0 F ps t x ∧ y = .tup [.str (Str.ofString "told"), .str (Str.ofString ""), .tup [x, .ref jp]] ∧ h'[jp]? = some (.lst ((sortQ (trX ps t)).map triD)))) noX := by
  have hea := k_each53 (f1 := f1) (f2 := f2) C l1 l2 h1 h2
  generalize gmD [f1] [] [0] (cntr a) mk1 = M1 at *
  generalize gmD [f2] [] [0] (cntr b) mk2 = M2 at *
  walk_at "fn"
  refine w_tryH ?_
  walk_at "go"
  refine (hea h).monoE ?_ ?_
  · rintro y h3 ⟨p, F, ps, t, x, jp, E, rfl, g⟩
    walk_at "go"
    exact ⟨p, .inr ⟨F, ps, t, x, jp, E, rfl, g⟩⟩
  rintro x l h3 ⟨p, rfl, rfl, lt⟩
  unfold tryH
  refine w_hdF (by walk_at "lk") ?_
  refine w_hdT (by walk_at "lk") ?_
  unfold hOnly
  walk_at "go"
  exact ⟨p, .inl ⟨lt, rfl⟩⟩
theorem k_own53 {h : MH} (hm : 64 < m) : Sat (m_of_its_own_36e00 [gmD [f1] [] [0] (cntr a) mk1, .str f1, gmD [f2] [] [0] (cntr b) mk2, .str f2] h) (fun y _ => y = .bl true) noX := by
  have hea := k_each53 (f1 := f1) (f2 := f2) C l1 l2 h1 h2
  generalize gmD [f1] [] [0] (cntr a) mk1 = M1 at *
  generalize gmD [f2] [] [0] (cntr b) mk2 = M2 at *
  walk_at "fn"
  refine (hea h).monoE ?_ ?_
  · rintro y h3 ⟨p, F, ps, t, x, jp, E, rfl, g⟩
    have := F_len C E
    have := E.le
    omega
  rintro x l h3 ⟨p, rfl, rfl, _⟩
  refine tryE_t (by walk_at "lk") rfl ?_
  dsimp only [List.set]
  walk_at "go"
  rfl
end
end
/-- the size of makings -/
theorem k_size53 {ns : List Str} {st : List Int} {sp : List (List Int)} {t : Tb} {es : List D} {ss : List Nat} {s0 : Nat} (K : Mkg ns st sp t es (ss ++ [s0])) (hl : es.length ≤ 1000) {h : MH} : Sat (m_size_ebd69 [.tup es] h) (fun y h' => h <+: h' ∧ y = .int (szO t s0 : Int)) noX := by
  have hlen := K.len
  rw [List.length_append, List.length_singleton] at hlen
  walk_at "fn"
  refine o_new (Own.nil h) (by simp) fun iL h1 o1 => ?_
  walk_at "go"
  refine w_loop0 (fun k ρ h' => ∃ o2, ρ = [some (.tup es), some (.ref iL), o2] ∧ Own h h' [(iL, (((ss ++ [s0]).take k).map fun s => (szO t s : Int)).map D.int)]) ⟨none, rfl, o1⟩ (fun _ _ _ _ => rfl) ?_ ?_
  · rintro k d ρ h2 hd ⟨o2', rfl, o2⟩
    have hk := (List.getElem?_eq_some_iff.mp hd).1
    obtain ⟨s, hs⟩ : ∃ s, (ss ++ [s0])[k]? = some s := ⟨_, List.getElem?_eq_getElem (l := ss ++ [s0]) (i := k) (by simp; omega)⟩
    refine ⟨_, rfl, ?_⟩
    dsimp only [List.set]
    have cap : ((((ss ++ [s0]).take k).map fun s => (szO t s : Int)).map D.int).length < 1000000 := by simp; omega
    have fin : ∀ h', Own h h' [(iL, (((ss ++ [s0]).take k).map fun s => (szO t s : Int)).map D.int ++ [D.int (szO t s : Int)])] → Own h h' [(iL, (((ss ++ [s0]).take (k + 1)).map fun s => (szO t s : Int)).map D.int)] := fun h' o => by
      rw [take_snoc hs, List.map_append, List.map_append]
      exact o
    have at_ : ∀ (i p u : Nat), i < k → (ss ++ [s0])[i]? = some p → t[p]? = some (some u) → atI ((((ss ++ [s0]).take k).map fun s => (szO t s : Int)).map D.int) (i : Int) = some (.int (u : Int)) := fun i p u hi e1 e2 => atI_at (by
      rw [List.getElem?_map, List.getElem?_map, List.getElem?_take_of_lt hi, e1, ← szO_of e2]
      rfl)
    rcases K.ok k s hs with ⟨x, e1, _, _, e2⟩ | ⟨a, b, p, q, u, v, e1, ha, hb, e2, e3, _, e4, e5, e6⟩
    · rw [hd] at e1
      cases e1
      walk_at "go"
      refine o_app o2 0 rfl cap fun h3 o3 => ?_
      rw [List.set_cons_zero] at o3
      refine ⟨_, rfl, fin _ ?_⟩
      rw [szO_of e2]
      exact o3
    · rw [hd] at e1
      cases e1
      have a1 := at_ a p u ha e2 e4
      have a2 := at_ b q v hb e3 e5
      walk_at "go"
      refine br_df (by simp) ?_
      walk_at "go"
      refine o_app o2 0 rfl cap fun h3 o3 => ?_
      rw [List.set_cons_zero] at o3
      refine ⟨_, rfl, fin _ ?_⟩
      rw [szO_of e6, Int.natCast_add]
      exact o3
  · rintro ρ h2 ⟨o2', rfl, o2⟩
    rw [List.take_of_length_le (by simp; omega)] at o2
    have a1 : atI (((ss ++ [s0]).map fun s => (szO t s : Int)).map D.int) (((((ss ++ [s0]).map fun s => (szO t s : Int)).length : Nat) : Int) - 1) = some (.int (szO t s0 : Int)) := by
      have : (((((ss ++ [s0]).map fun s => (szO t s : Int)).length : Nat) : Int) - 1) = ((ss.length : Nat) : Int) := by simp
      rw [this]
      exact atI_at (by simp)
    walk_at "go"
    exact ⟨o2.pre, rfl⟩
end
section
open PySem L2

local macro_rules | `(tactic| walk_at "w") => `(tactic| first
  | with_reducible refine w_eq (notN_non _) ?_
  | with_reducible refine w_eq (notN_int _ _) ?_
  | with_reducible refine w_eq (isN_non _) ?_
  | with_reducible refine w_eq (isN_int _ _) ?_)
def cellR (kc : List (Nat × List Int)) : LL := kc.map fun p => (p.1, p.2.map D.int)
/-- rows of a machine in cells -/
structure RowsC (n : Nat) (kc : List (Nat × List Int)) : Prop where
  len : kc.length = n
  row : ∀ p ∈ kc, p.2.length = n ∧ ∀ z ∈ p.2, 0 ≤ z ∧ z < (n : Int)
theorem RowsC.set {n : Nat} {kc : List (Nat × List Int)} (R : RowsC n kc) {k i : Nat} {p q : Nat × List Int} (e : kc[k]? = some p) (e2 : q ∈ kc) {r : Nat} (hr : r < n) : RowsC n (kc.set k (p.1, p.2.set i (q.2.getD r 0))) := by
  obtain ⟨a, b⟩ := R.row p (List.mem_of_getElem? e)
  obtain ⟨a2, b2⟩ := R.row q e2
  refine ⟨by rw [List.length_set]; exact R.len, fun x hx => ?_⟩
  rcases List.mem_or_eq_of_mem_set hx with hx | rfl
  · exact R.row x hx
  · refine ⟨by simp [a], fun z hz => ?_⟩
    rcases List.mem_or_eq_of_mem_set hz with hz | rfl
    · exact b z hz
    · exact b2 _ (getD_mem (by omega))
section
variable {fs ns : List Str} {st : List Int} {sp : List (List Int)} {mk : List Int}
end
end
section
open PySem L2
end
section
open PySem L2

local macro_rules | `(tactic| walk_at "w") => `(tactic| first
  | with_reducible refine w_eq (notN_non _) ?_
  | with_reducible refine w_eq (notN_int _ _) ?_
  | with_reducible refine w_eq (isN_non _) ?_
  | with_reducible refine w_eq (isN_int _ _) ?_)
/-- a comprehension with a condition, whose parts change nothing -/
theorem o_compF54 {h0 h : MH} {L : LL} {Q : D → MH → Prop} {E : XE} {gd : MH → Bool} {tg : MG} {tt : MT} {te : ME} {ρ : Slots} (bf : D → Bool) (vf : D → D) {items : List D} (o : Own h0 h L) (hl : items.length ≤ 1000000)
    (hg : ∀ h', h <+: h' → gd h' = true)
    (hs : ∀ (i : Nat) d h', items[i]? = some d → h <+: h' → ∃ ρ1, tg d ρ = some ρ1 ∧ Sat (tt ρ1 h') (fun b h2 => h2 = h' ∧ b = bf d) noX ∧ Sat (te ρ1 h') (fun y h2 => h2 = h' ∧ y = vf d) noX)
    (hn : ∀ i h', Own h0 h' ((i, (items.filter bf).map vf) :: L) → Q (.ref i) h') : Sat (lcGo gd tg tt te h.length ρ items (h ++ [.lst []])) Q E := by
  refine w_comp (fun k acc h' => acc = ((items.take k).filter bf).map vf ∧ h' = h ++ [.lst acc]) (k := 0) ⟨by simp, rfl⟩ (by simp) (by simpa using hl) (fun i acc h' hi => by rw [hi.2]; exact hg _ (List.prefix_append _ _)) ?_ ?_
  · rintro i d acc h' hd ⟨ha, rfl⟩ hc
    rw [Nat.zero_add] at ha ⊢
    obtain ⟨ρ1, e1, s2, e3⟩ := hs i d (h ++ [.lst acc]) hd (List.prefix_append _ _)
    obtain ⟨b, h2, e2, rfl, rfl⟩ := s2.get
    refine ⟨ρ1, e1, bf d, _, e2, fun z => ⟨hc, ?_, rfl⟩, fun z => e3.mono ?_⟩
    · rw [take_snoc hd, List.filter_append, List.map_append, ← ha]
      simp [z]
    · rintro y h2 ⟨rfl, rfl⟩
      refine ⟨hc, ?_, by simp⟩
      rw [take_snoc hd, List.filter_append, List.map_append, ← ha]
      simp [z]
  · rintro acc h' ⟨ha, rfl⟩ hc
    rw [Nat.zero_add, List.take_length] at ha
    rw [ha]
    exact hn _ _ (o.alloc _)
abbrev refsR (kc : List (Nat × List Int)) : List D := kc.map fun p => D.ref p.1
/-- which states stand for which -/
structure Twin54 (n : Nat) (st : List Int) (sp : List (List Int)) (mk : List Int) (st2 : List Int) (sp2 : List (List Int)) (mk2 : List Int) (bs : List Int) : Prop where
  bl : bs.length = sp2.length
  bv : ∀ z ∈ bs, 0 ≤ z ∧ z < (n : Int)
  ball : ∀ b : Int, 0 ≤ b → b < (n : Int) → b ∈ bs
  sl : st2.length = st.length
  s : ∀ k : Nat, k < st.length → bs.getD (st2.getD k 0).toNat 0 = st.getD k 0
  p : ∀ p q : Nat, p < sp2.length → q < sp2.length → bs.getD (nx sp2 p q) 0 = ((nx sp (bs.getD p 0).toNat (bs.getD q 0).toNat : Nat) : Int)
  m : ∀ p : Nat, p < sp2.length → mk2.getD p 0 = mk.getD (bs.getD p 0).toNat 0
/-- the states that stand for one -/
def Heads54 (many : Nat) (bs : List Int) (b : Nat) (l : List Int) : Prop := 0 < l.length ∧ l.length ≤ many ∧ ∀ z ∈ l, 0 ≤ z ∧ z < (many : Int) ∧ bs.getD z.toNat 0 = (b : Int)
section
variable {fs ns : List Str} {st : List Int} {sp : List (List Int)} {mk : List Int}
end
end
end Mi
namespace Mi
open PySem L2
def mk1C (a c : Nat) : List Int := (List.range a).map fun k => if k = c then 1 else 0
def mk2C (b c : Nat) : List Int := (List.range b).map fun k => if k = c then 0 else 1
def badC (a b c e m : Nat) : List Nat := (List.range m).filter fun k => decide (k % a = c ∧ k % b = e)
section
variable {a b m c e : Nat} (C : Cm a b m) {F : List D} {ps : List (Nat × Nat)} {t : Tb} {x : D} (E : EaX [] [] [0] [0] (cntr a) (cntr b) (mk1C a c) (mk2C b e) 0 0 F ps t x)
include C E
theorem hit_C {k : Nat} (hk : k < m) : hit48 t (ps.map (mkX (mk1C a c) (mk2C b e) 0 0)) 0 (F.idxOf (gC a b k)) = decide (k % a = c ∧ k % b = e) := by
  obtain ⟨h1, h2⟩ := idx_ok C E hk
  have h3 := ps_at C E h2
  have la := Nat.mod_lt k C.ha
  have lb := Nat.mod_lt k C.hb
  unfold hit48
  rw [size_C C E hk, decide_eq_true (by omega), Bool.true_and, List.getD_eq_getElem?_getD, List.getElem?_map, h3]
  show bt (mkX (mk1C a c) (mk2C b e) 0 0 (k % a, k % b)) 0 = _
  have e1 : (mk1C a c).getD (k % a) 0 = if k % a = c then 1 else 0 := by
    unfold mk1C
    rw [getD_ltE (by simpa using la), List.getElem_map, List.getElem_range]
  have e2 : (mk2C b e).getD (k % b) 0 = if k % b = e then 0 else 1 := by
    unfold mk2C
    rw [getD_ltE (by simpa using lb), List.getElem_map, List.getElem_range]
  have b0 : bt 0 0 = false := by decide
  have b1 : bt 1 0 = true := by decide
  unfold mkX
  simp only [e1, e2]
  by_cases q1 : k % a = c <;> by_cases q2 : k % b = e <;> simp [q1, q2, b0, b1]
theorem ans_C : (x = .non ∧ badC a b c e m = []) ∨ ∃ es ss s0 k0, x = .tup es ∧ Mkg (nmsP [] []) (stE [] [] [0] [0] F) (rowsE (fC a b) F) t es (ss ++ [s0]) ∧ es.length ≤ 1000 ∧ szO t s0 = k0 + 1 ∧ badC a b c e m ≠ [] ∧ (badC a b c e m)[0]? = some k0 := by
  have hrl : (rowsE (fC a b) F).length = m := by unfold rowsE; rw [List.length_map, List.length_range]; exact F_len C E
  rcases E.lst.go with ⟨hno, rfl⟩ | ⟨s0, es, ss, q1, q2, q3, rfl, K⟩
  · refine .inl ⟨rfl, List.eq_nil_iff_forall_not_mem.mpr fun k hk => ?_⟩
    obtain ⟨z1, z2⟩ := List.mem_filter.mp hk
    rw [List.mem_range] at z1
    have := hno (F.idxOf (gC a b k)) (by rw [hrl]; exact (idx_ok C E z1).1)
    rw [hit_C C E z1] at this
    rw [this] at z2
    cases z2
  · rw [hrl] at q1
    obtain ⟨k0, p1, p2, p3⟩ := idx_of C E q1
    rw [← p2, hit_C C E p1, decide_eq_true_eq] at q2
    have hmem : k0 ∈ badC a b c e m := List.mem_filter.mpr ⟨List.mem_range.mpr p1, decide_eq_true q2⟩
    have hne : badC a b c e m ≠ [] := fun z => by rw [z] at hmem; cases hmem
    have h64 : (ss ++ [s0]).length ≤ 64 := by
      have hall : ∀ v ∈ ss ++ [s0], v < t.length := fun v hv => by
        obtain ⟨i, hi⟩ := List.mem_iff_getElem?.mp hv
        rcases K.ok i v hi with ⟨_, _, _, _, e⟩ | ⟨_, _, _, _, _, _, _, _, _, _, _, _, _, _, e⟩
        · exact (List.getElem?_eq_some_iff.mp e).1
        · exact (List.getElem?_eq_some_iff.mp e).1
      have := K.nd.length_le_of_subset (l₂ := List.range t.length) fun v hv => List.mem_range.mpr (hall v hv)
      rw [List.length_range, E.iv.len, hrl] at this
      have := E.le
      have := F_len C E
      omega
    refine .inr ⟨es, ss, s0, k0, rfl, K, by rw [K.len]; omega, by rw [← p2]; exact size_C C E p1, hne, ?_⟩
    cases hb : badC a b c e m with
    | nil => exact absurd hb hne
    | cons k l =>
      have hk : k ∈ badC a b c e m := by rw [hb]; exact List.mem_cons_self
      obtain ⟨z1, z2⟩ := List.mem_filter.mp hk
      rw [decide_eq_true_eq] at z2
      have : k = k0 := gC_inj C (List.mem_range.mp z1) p1 (by unfold gC; rw [z2.1, z2.2, q2.1, q2.2])
      rw [this]
      rfl
end
local macro_rules | `(tactic| walk_at "gl") => `(tactic| first
  | assumption
  | (refine Own.atL (h0 := ?_) (L := ?_) ?_ 0 ?_; rotate_left; rotate_left; assumption; rfl)
  | (refine Own.atL (h0 := ?_) (L := ?_) ?_ 1 ?_; rotate_left; rotate_left; assumption; rfl)
  | (refine Own.atL (h0 := ?_) (L := ?_) ?_ 2 ?_; rotate_left; rotate_left; assumption; rfl)
  | (refine Own.atL (h0 := ?_) (L := ?_) ?_ 3 ?_; rotate_left; rotate_left; assumption; rfl)
  | (refine Own.atL (h0 := ?_) (L := ?_) ?_ 4 ?_; rotate_left; rotate_left; assumption; rfl)
  | (refine Own.atL (h0 := ?_) (L := ?_) ?_ 5 ?_; rotate_left; rotate_left; assumption; rfl)
  | (refine Own.atL (h0 := ?_) (L := ?_) ?_ 6 ?_; rotate_left; rotate_left; assumption; rfl)
  | (refine Own.atL (h0 := ?_) (L := ?_) ?_ 7 ?_; rotate_left; rotate_left; assumption; rfl)
  | (refine Own.atL (h0 := ?_) (L := ?_) ?_ 8 ?_; rotate_left; rotate_left; assumption; rfl)
  | (refine Own.atL (h0 := ?_) (L := ?_) ?_ 9 ?_; rotate_left; rotate_left; assumption; rfl)
  | (refine Own.getL (h0 := ?_) (L := ?_) ?_ ?_; rotate_left; rotate_left; assumption; assumption))
local macro_rules | `(tactic| walk_at "il") => `(tactic| first
  | (refine Own.isL (h0 := ?_) (L := ?_) (l := ?_) ?_ 0 ?_; rotate_left; rotate_left; rotate_left; assumption; rfl)
  | (refine Own.isL (h0 := ?_) (L := ?_) (l := ?_) ?_ 1 ?_; rotate_left; rotate_left; rotate_left; assumption; rfl)
  | (refine Own.isL (h0 := ?_) (L := ?_) (l := ?_) ?_ 2 ?_; rotate_left; rotate_left; rotate_left; assumption; rfl)
  | (refine Own.isL (h0 := ?_) (L := ?_) (l := ?_) ?_ 3 ?_; rotate_left; rotate_left; rotate_left; assumption; rfl)
  | (refine Own.isL (h0 := ?_) (L := ?_) (l := ?_) ?_ 4 ?_; rotate_left; rotate_left; rotate_left; assumption; rfl)
  | (refine Own.isL (h0 := ?_) (L := ?_) (l := ?_) ?_ 5 ?_; rotate_left; rotate_left; rotate_left; assumption; rfl)
  | (refine Own.isL (h0 := ?_) (L := ?_) (l := ?_) ?_ 6 ?_; rotate_left; rotate_left; rotate_left; assumption; rfl)
  | (refine Own.isL (h0 := ?_) (L := ?_) (l := ?_) ?_ 7 ?_; rotate_left; rotate_left; rotate_left; assumption; rfl)
  | (refine Own.isL (h0 := ?_) (L := ?_) (l := ?_) ?_ 8 ?_; rotate_left; rotate_left; rotate_left; assumption; rfl)
  | (refine Own.isL (h0 := ?_) (L := ?_) (l := ?_) ?_ 9 ?_; rotate_left; rotate_left; rotate_left; assumption; rfl))
local macro_rules | `(tactic| walk_at "bd") => `(tactic| first | assumption | omega | (simp; done) | (simp; omega) | (simp [*]; done) | (simp [*]; omega))
local macro_rules | `(tactic| walk_at "w") => `(tactic| first
  | with_reducible refine w_seq ?_
  | with_reducible refine w_asg ?_
  | with_reducible refine w_cons ?_
  | with_reducible refine w_nil ?_
  | with_reducible refine w_c ?_
  | ((with_reducible refine w_var (d := ?_) ?_ ?_); rotate_left; rfl)
  | with_reducible refine w_bin ?_
  | with_reducible refine w_call ?_
  | with_reducible refine w_if ?_
  | with_reducible refine w_B ?_
  | with_reducible refine w_unB ?_
  | with_reducible refine w_ret ?_
  | with_reducible refine w_drop ?_
  | with_reducible refine w_skip ?_
  | with_reducible refine w_eq (dAdd_int _ _ _) ?_
  | with_reducible refine w_eq (dSub_int _ _ _) ?_
  | with_reducible refine w_eq (dEq_int _ _ _) ?_
  | with_reducible refine w_eq (dEq_str _ _ _) ?_
  | with_reducible refine w_eq (dNe_strs _ _ _) ?_
  | with_reducible refine w_eq (dEq_bls _ _ _) ?_
  | with_reducible refine w_eq (dNe_bls _ _ _) ?_
  | with_reducible refine w_eq (dLt_int _ _ _) ?_
  | with_reducible refine w_eq (dLe_int _ _ _) ?_
  | with_reducible refine w_eq (dGt_int _ _ _) ?_
  | with_reducible refine w_eq (dGe_int _ _ _) ?_
  | with_reducible refine w_eq (dNe_int _ _ _) ?_
  | ((with_reducible refine w_mod ?_ ?_); (first | assumption | decide | omega))
  | ((with_reducible refine w_fdiv ?_ ?_); (first | assumption | decide | omega))
  | ((with_reducible refine w_mulS ?_ ?_); (first | decide | omega))
  | ((with_reducible refine w_addS ?_ ?_); (first | assumption | decide | omega))
  | ((with_reducible refine w_lenS ?_ ?_); (first | assumption | decide | omega))
  | ((with_reducible refine w_slS ?_ ?_); (first | assumption | decide | omega))
  | with_reducible refine w_lenTm ?_
  | with_reducible refine w_eq (dLen_tup _ _) ?_
  | with_reducible refine w_eq (dSl_tup _ _ _ _) ?_
  | with_reducible refine w_eq (dMax_ev _ _ _) ?_
  | with_reducible refine w_eq (dMin_ev _ _ _) ?_
  | with_reducible refine w_eq (dAbs_ev _ _) ?_
  | with_reducible refine w_not ?_
  | with_reducible refine w_and ?_
  | with_reducible refine w_or ?_
  | with_reducible refine br_n ?_
  | with_reducible refine br_tt ?_
  | with_reducible refine br_ff ?_
  | ((with_reducible refine br_dt ?_ ?_); (first | assumption | omega | rfl))
  | ((with_reducible refine br_df ?_ ?_); (first | assumption | omega))
  | with_reducible refine w_tup ?_
  | ((with_reducible refine w_toTup ?_ ?_); exact (by simp))
  | with_reducible refine w_lst ?_
  | with_reducible refine w_lc ?_
  | with_reducible refine w_for ?_
  | with_reducible refine w_range1 ?_
  | with_reducible refine w_range2 ?_
  | ((with_reducible refine w_dR1 ?_ ?_); (first | decide | omega))
  | ((with_reducible refine w_dR2 ?_ ?_); (first | decide | omega))
  | with_reducible refine w_iter ?_
  | with_reducible refine w_eq (iter1_tup _ _) ?_
  | with_reducible refine w_eq (iter1_str _ _) ?_
  | with_reducible refine w_sl ?_
  | with_reducible refine w_no ?_
  | with_reducible refine w_some ?_
  | with_reducible refine w_unI ?_
  | with_reducible refine w_meth ?_
  | with_reducible refine w_isi ?_
  | with_reducible refine w_zip ?_
  | with_reducible refine w_ifE ?_
  | with_reducible refine w_andV ?_
  | with_reducible refine w_orV ?_
  | with_reducible refine w_notV ?_
  | with_reducible refine w_andK ?_
  | with_reducible refine w_orK ?_
  | with_reducible refine w_notK ?_
  | with_reducible refine w_revL ?_
  | with_reducible refine w_listRg1 ?_
  | with_reducible refine w_tindex ?_
  | with_reducible refine w_setIx ?_
  | with_reducible refine w_un ?_
  | with_reducible refine w_rev1 ?_
  | with_reducible refine w_rev2 ?_
  | with_reducible refine w_chain ?_
  | with_reducible refine w_chK ?_
  | with_reducible refine w_retN ?_
  | with_reducible refine w_brk ?_
  | with_reducible refine w_cont ?_
  | with_reducible refine w_asgT ?_
  | with_reducible refine w_eq (isi_str_str _ _) ?_
  | with_reducible refine w_eq (isi_int_int _ _) ?_
  | with_reducible refine w_eq (isi_tup_tup _ _) ?_
  | with_reducible refine w_eq (isi_bool_int _ _) ?_
  | with_reducible refine w_eq (isi_str_int _ _) ?_
  | ((with_reducible refine w_lenLm (α := ?_) (f := ?_) (l := ?_) ?_ ?_); rotate_left; rotate_left; rotate_left; walk_at "gl")
  | ((with_reducible refine w_lenL (l := ?_) ?_ ?_); rotate_left; walk_at "gl")
  | ((with_reducible refine w_iterL (l := ?_) ?_ ?_); rotate_left; walk_at "gl"; dsimp only)
  | ((with_reducible refine w_tupL (l := ?_) ?_ ?_); rotate_left; walk_at "gl")
  | ((with_reducible refine w_ixT (d := ?_) ?_ ?_); rotate_left; (first | with_reducible assumption | rfl))
  | ((with_reducible refine w_ixL (l := ?_) (d := ?_) ?_ ?_ ?_); rotate_left; rotate_left; walk_at "gl"; (first | with_reducible assumption | rfl))
  | ((with_reducible refine w_addT ?_ ?_); walk_at "bd")
  | ((with_reducible refine ⟨?_, ?_⟩); (with_reducible (show isListD (.ref _) _ = true)); walk_at "il")
  | with_reducible refine w_tryK ?_
  | with_reducible refine w_raise ?_
  | with_reducible refine w_raise0 ?_
  | with_reducible refine w_isX ?_
  | ((with_reducible refine w_isXK (k := ?_) ?_ ?_); rotate_left; (first | with_reducible exact lkA | (apply lkB; decide +kernel; exact lkA) | (apply lkB; decide +kernel; apply lkB; decide +kernel; exact lkA) | (apply lkB; decide +kernel; apply lkB; decide +kernel; apply lkB; decide +kernel; exact lkA)))
  | with_reducible refine w_xf ?_
  | ((with_reducible refine w_xfK ?_ ?_ ?_); (exact List.mem_cons_self); (decide))
  | with_reducible refine w_eq (isN_xo _) ?_
  | with_reducible refine w_eq (dNeg_int _ _) ?_)
local macro_rules | `(tactic| walk_at "go") => `(tactic| (repeat (walk_at "w")); try dsimp only [List.set])
local macro_rules | `(tactic| walk_at "fn") => `(tactic| ((refine w_fun ?_); simp only [startD, List.map_cons, List.map_nil, List.reduceReplicate, Nat.reduceSub, List.cons_append, List.nil_append]; walk_at "go"))
local macro_rules | `(tactic| walk_at "lk") => `(tactic| first | with_reducible exact lkA | (apply lkB; decide +kernel; walk_at "lk"))
local macro_rules | `(tactic| walk_at "mk") => `(tactic| first | with_reducible exact mkA | (apply mkB; decide +kernel; walk_at "mk"))
local macro_rules | `(tactic| walk_at "fk") => `(tactic| first | with_reducible exact fkA | exact fkN | (apply fkB; decide +kernel; walk_at "fk"))
local macro_rules | `(tactic| walk_at "cs") => `(tactic| first | exact List.mem_cons_self | (apply List.mem_cons_of_mem; walk_at "cs"))
local macro_rules | `(tactic| walk_at "w") => `(tactic| first
  | with_reducible refine w_fld ?_
  | ((with_reducible refine w_fldK (c := ?_) (fs := ?_) (v := ?_) ?_ ?_ ?_ ?_); rotate_left; rotate_left; rotate_left; (with_reducible assumption); (walk_at "cs"); (walk_at "fk"))
  | with_reducible refine w_setFld ?_
  | with_reducible refine w_new ?_
  | with_reducible refine w_methI ?_
  | ((with_reducible refine w_methK (c := ?_) (fs := ?_) (F := ?_) ?_ ?_ ?_ ?_); rotate_left; rotate_left; rotate_left; (with_reducible assumption); (walk_at "mk"); (walk_at "fk"))
  | with_reducible refine w_isC ?_
  | ((with_reducible refine w_isCK (c := ?_) (fs := ?_) (k := ?_) ?_ ?_ ?_); rotate_left; rotate_left; rotate_left; (with_reducible assumption); (walk_at "lk"))
  | with_reducible refine w_callD ?_
  | with_reducible refine w_mDSet ?_
  | with_reducible refine w_eq (nN_non _) ?_
  | with_reducible refine w_eq (nN_int _ _) ?_
  | with_reducible refine w_eq (nN_tup _ _) ?_
  | with_reducible refine w_eq (nN_ref _ _) ?_
  | with_reducible refine w_eq (iN_non _) ?_
  | with_reducible refine w_eq (iN_int _ _) ?_
  | with_reducible refine w_eq (iN_tup _ _) ?_
  | with_reducible refine w_eq (iN_ref _ _) ?_)
theorem idIf {N : SP} {T : D → MH → Prop} {B C : SP} {E : SX} {ρ : Slots} {h : MH} {c : MT} {a b r : MS} (q : OS (mSeq (mIf c a b) r ρ h) N T B C E) : OS (mSeq (mIf c a b) r ρ h) N T B C E := q
theorem pickF53 {y0 y1 y2 y3 : Str} {i : Int} (hi : 0 ≤ i ∧ i < 5) : ∃ (z : Int) (f : Str), atI [D.int 0, .int 0, .int 0, .int 2, .int 2] i = some (.int z) ∧ atI ([y0, y1, y2, y3].map D.str) z = some (.str f) := by
  have : i = 0 ∨ i = 1 ∨ i = 2 ∨ i = 3 ∨ i = 4 := by omega
  rcases this with rfl | rfl | rfl | rfl | rfl
  · exact ⟨0, y0, rfl, rfl⟩
  · exact ⟨0, y0, rfl, rfl⟩
  · exact ⟨0, y0, rfl, rfl⟩
  · exact ⟨2, y2, rfl, rfl⟩
  · exact ⟨2, y2, rfl, rfl⟩
theorem pickG53 {y0 y1 y2 y3 : Str} {i : Int} (hi : 0 ≤ i ∧ i < 5) : ∃ (z : Int) (f : Str), atI [D.int 1, .int 1, .int 1, .int 3, .int 2] i = some (.int z) ∧ atI ([y0, y1, y2, y3].map D.str) z = some (.str f) := by
  have : i = 0 ∨ i = 1 ∨ i = 2 ∨ i = 3 ∨ i = 4 := by omega
  rcases this with rfl | rfl | rfl | rfl | rfl
  · exact ⟨1, y1, rfl, rfl⟩
  · exact ⟨1, y1, rfl, rfl⟩
  · exact ⟨1, y1, rfl, rfl⟩
  · exact ⟨3, y3, rfl, rfl⟩
  · exact ⟨2, y2, rfl, rfl⟩
theorem cm_lcm {a b : Nat} (ha : 0 < a) (hb : 0 < b) : Cm a b (Nat.lcm a b) :=
  ⟨ha, hb, Nat.lcm_pos ha hb, Nat.mod_eq_zero_of_dvd (Nat.dvd_lcm_left a b), Nat.mod_eq_zero_of_dvd (Nat.dvd_lcm_right a b), fun k h0 h1 ⟨h2, h3⟩ => by
    have := Nat.le_of_dvd h0 (Nat.lcm_dvd (Nat.dvd_of_mod_eq_zero h2) (Nat.dvd_of_mod_eq_zero h3))
    omega⟩
def bfC (a b c e : Nat) (d : D) : Bool := match d with
  | .int z => decide (z % (a : Int) = (c : Int)) && decide (z % (b : Int) = (e : Int))
  | _ => false
theorem bad_eq {a b c e m : Nat} : ((rangeD 0 m).filter (bfC a b c e)).map id = ((badC a b c e m).map fun (k : Nat) => (k : Int)).map D.int := by
  unfold rangeD badC
  rw [List.filter_map, List.map_id, List.map_map]
  have : (List.range m).filter (bfC a b c e ∘ fun (k : Nat) => D.int (0 + (k : Int))) = (List.range m).filter fun k => decide (k % a = c ∧ k % b = e) := List.filter_congr fun k _ => by
    show (decide ((0 + (k : Int)) % (a : Int) = (c : Int)) && decide ((0 + (k : Int)) % (b : Int) = (e : Int))) = _
    rw [Int.zero_add, ← Int.natCast_emod, ← Int.natCast_emod, ← Bool.decide_and]
    exact decide_eq_decide.mpr (by omega)
  rw [this]
  refine List.map_congr_left fun k _ => ?_
  show D.int (0 + (k : Int)) = D.int (k : Int)
  rw [Int.zero_add]
theorem some53 {i : Int} (hi : 0 ≤ i ∧ i < 8) : ∃ p q : Nat, atI [D.tup [.int 5, .int 13], .tup [.int 13, .int 5], .tup [.int 7, .int 9], .tup [.int 64, .int 1], .tup [.int 1, .int 64], .tup [.int 32, .int 21], .tup [.int 6, .int 11], .tup [.int 16, .int 5]] i = some (.tup [.int (p : Int), .int (q : Int)]) ∧ (1 ≤ p ∧ p ≤ 64) ∧ (1 ≤ q ∧ q ≤ 64) := by
  have : i = 0 ∨ i = 1 ∨ i = 2 ∨ i = 3 ∨ i = 4 ∨ i = 5 ∨ i = 6 ∨ i = 7 := by omega
  rcases this with rfl | rfl | rfl | rfl | rfl | rfl | rfl | rfl
  · exact ⟨5, 13, rfl, by omega, by omega⟩
  · exact ⟨13, 5, rfl, by omega, by omega⟩
  · exact ⟨7, 9, rfl, by omega, by omega⟩
  · exact ⟨64, 1, rfl, by omega, by omega⟩
  · exact ⟨1, 64, rfl, by omega, by omega⟩
  · exact ⟨32, 21, rfl, by omega, by omega⟩
  · exact ⟨6, 11, rfl, by omega, by omega⟩
  · exact ⟨16, 5, rfl, by omega, by omega⟩
end Mi
namespace Mi
open PySem L2
local macro_rules | `(tactic| walk_at "gl") => `(tactic| first
  | assumption
  | (refine Own.atL (h0 := ?_) (L := ?_) ?_ 0 ?_; rotate_left; rotate_left; assumption; rfl)
  | (refine Own.atL (h0 := ?_) (L := ?_) ?_ 1 ?_; rotate_left; rotate_left; assumption; rfl)
  | (refine Own.atL (h0 := ?_) (L := ?_) ?_ 2 ?_; rotate_left; rotate_left; assumption; rfl)
  | (refine Own.atL (h0 := ?_) (L := ?_) ?_ 3 ?_; rotate_left; rotate_left; assumption; rfl)
  | (refine Own.atL (h0 := ?_) (L := ?_) ?_ 4 ?_; rotate_left; rotate_left; assumption; rfl)
  | (refine Own.atL (h0 := ?_) (L := ?_) ?_ 5 ?_; rotate_left; rotate_left; assumption; rfl)
  | (refine Own.atL (h0 := ?_) (L := ?_) ?_ 6 ?_; rotate_left; rotate_left; assumption; rfl)
  | (refine Own.atL (h0 := ?_) (L := ?_) ?_ 7 ?_; rotate_left; rotate_left; assumption; rfl)
  | (refine Own.atL (h0 := ?_) (L := ?_) ?_ 8 ?_; rotate_left; rotate_left; assumption; rfl)
  | (refine Own.atL (h0 := ?_) (L := ?_) ?_ 9 ?_; rotate_left; rotate_left; assumption; rfl)
  | (refine Own.getL (h0 := ?_) (L := ?_) ?_ ?_; rotate_left; rotate_left; assumption; assumption))
local macro_rules | `(tactic| walk_at "il") => `(tactic| first
  | (refine Own.isL (h0 := ?_) (L := ?_) (l := ?_) ?_ 0 ?_; rotate_left; rotate_left; rotate_left; assumption; rfl)
  | (refine Own.isL (h0 := ?_) (L := ?_) (l := ?_) ?_ 1 ?_; rotate_left; rotate_left; rotate_left; assumption; rfl)
  | (refine Own.isL (h0 := ?_) (L := ?_) (l := ?_) ?_ 2 ?_; rotate_left; rotate_left; rotate_left; assumption; rfl)
  | (refine Own.isL (h0 := ?_) (L := ?_) (l := ?_) ?_ 3 ?_; rotate_left; rotate_left; rotate_left; assumption; rfl)
  | (refine Own.isL (h0 := ?_) (L := ?_) (l := ?_) ?_ 4 ?_; rotate_left; rotate_left; rotate_left; assumption; rfl)
  | (refine Own.isL (h0 := ?_) (L := ?_) (l := ?_) ?_ 5 ?_; rotate_left; rotate_left; rotate_left; assumption; rfl)
  | (refine Own.isL (h0 := ?_) (L := ?_) (l := ?_) ?_ 6 ?_; rotate_left; rotate_left; rotate_left; assumption; rfl)
  | (refine Own.isL (h0 := ?_) (L := ?_) (l := ?_) ?_ 7 ?_; rotate_left; rotate_left; rotate_left; assumption; rfl)
  | (refine Own.isL (h0 := ?_) (L := ?_) (l := ?_) ?_ 8 ?_; rotate_left; rotate_left; rotate_left; assumption; rfl)
  | (refine Own.isL (h0 := ?_) (L := ?_) (l := ?_) ?_ 9 ?_; rotate_left; rotate_left; rotate_left; assumption; rfl))
local macro_rules | `(tactic| walk_at "bd") => `(tactic| first | assumption | omega | (simp; done) | (simp; omega) | (simp [*]; done) | (simp [*]; omega))
local macro_rules | `(tactic| walk_at "w") => `(tactic| first
  | with_reducible refine w_seq ?_
  | with_reducible refine w_asg ?_
  | with_reducible refine w_cons ?_
  | with_reducible refine w_nil ?_
  | with_reducible refine w_c ?_
  | ((with_reducible refine w_var (d := ?_) ?_ ?_); rotate_left; rfl)
  | with_reducible refine w_bin ?_
  | with_reducible refine w_call ?_
  | with_reducible refine w_if ?_
  | with_reducible refine w_B ?_
  | with_reducible refine w_unB ?_
  | with_reducible refine w_ret ?_
  | with_reducible refine w_drop ?_
  | with_reducible refine w_skip ?_
  | with_reducible refine w_eq (dAdd_int _ _ _) ?_
  | with_reducible refine w_eq (dSub_int _ _ _) ?_
  | with_reducible refine w_eq (dEq_int _ _ _) ?_
  | with_reducible refine w_eq (dEq_str _ _ _) ?_
  | with_reducible refine w_eq (dNe_strs _ _ _) ?_
  | with_reducible refine w_eq (dEq_bls _ _ _) ?_
  | with_reducible refine w_eq (dNe_bls _ _ _) ?_
  | with_reducible refine w_eq (dLt_int _ _ _) ?_
  | with_reducible refine w_eq (dLe_int _ _ _) ?_
  | with_reducible refine w_eq (dGt_int _ _ _) ?_
  | with_reducible refine w_eq (dGe_int _ _ _) ?_
  | with_reducible refine w_eq (dNe_int _ _ _) ?_
  | ((with_reducible refine w_mod ?_ ?_); (first | assumption | decide | omega))
  | ((with_reducible refine w_fdiv ?_ ?_); (first | assumption | decide | omega))
  | ((with_reducible refine w_mulS ?_ ?_); (first | decide | omega))
  | ((with_reducible refine w_addS ?_ ?_); (first | assumption | decide | omega))
  | ((with_reducible refine w_lenS ?_ ?_); (first | assumption | decide | omega))
  | ((with_reducible refine w_slS ?_ ?_); (first | assumption | decide | omega))
  | with_reducible refine w_lenTm ?_
  | with_reducible refine w_eq (dLen_tup _ _) ?_
  | with_reducible refine w_eq (dSl_tup _ _ _ _) ?_
  | with_reducible refine w_eq (dMax_ev _ _ _) ?_
  | with_reducible refine w_eq (dMin_ev _ _ _) ?_
  | with_reducible refine w_eq (dAbs_ev _ _) ?_
  | with_reducible refine w_not ?_
  | with_reducible refine w_and ?_
  | with_reducible refine w_or ?_
  | with_reducible refine br_n ?_
  | with_reducible refine br_tt ?_
  | with_reducible refine br_ff ?_
  | ((with_reducible refine br_dt ?_ ?_); (first | assumption | omega | rfl))
  | ((with_reducible refine br_df ?_ ?_); (first | assumption | omega))
  | with_reducible refine w_tup ?_
  | ((with_reducible refine w_toTup ?_ ?_); exact (by simp))
  | with_reducible refine w_lst ?_
  | with_reducible refine w_lc ?_
  | with_reducible refine w_for ?_
  | with_reducible refine w_range1 ?_
  | with_reducible refine w_range2 ?_
  | ((with_reducible refine w_dR1 ?_ ?_); (first | decide | omega))
  | ((with_reducible refine w_dR2 ?_ ?_); (first | decide | omega))
  | with_reducible refine w_iter ?_
  | with_reducible refine w_eq (iter1_tup _ _) ?_
  | with_reducible refine w_eq (iter1_str _ _) ?_
  | with_reducible refine w_sl ?_
  | with_reducible refine w_no ?_
  | with_reducible refine w_some ?_
  | with_reducible refine w_unI ?_
  | with_reducible refine w_meth ?_
  | with_reducible refine w_isi ?_
  | with_reducible refine w_zip ?_
  | with_reducible refine w_ifE ?_
  | with_reducible refine w_andV ?_
  | with_reducible refine w_orV ?_
  | with_reducible refine w_notV ?_
  | with_reducible refine w_andK ?_
  | with_reducible refine w_orK ?_
  | with_reducible refine w_notK ?_
  | with_reducible refine w_revL ?_
  | with_reducible refine w_listRg1 ?_
  | with_reducible refine w_tindex ?_
  | with_reducible refine w_setIx ?_
  | with_reducible refine w_un ?_
  | with_reducible refine w_rev1 ?_
  | with_reducible refine w_rev2 ?_
  | with_reducible refine w_chain ?_
  | with_reducible refine w_chK ?_
  | with_reducible refine w_retN ?_
  | with_reducible refine w_brk ?_
  | with_reducible refine w_cont ?_
  | with_reducible refine w_asgT ?_
  | with_reducible refine w_eq (isi_str_str _ _) ?_
  | with_reducible refine w_eq (isi_int_int _ _) ?_
  | with_reducible refine w_eq (isi_tup_tup _ _) ?_
  | with_reducible refine w_eq (isi_bool_int _ _) ?_
  | with_reducible refine w_eq (isi_str_int _ _) ?_
  | ((with_reducible refine w_lenLm (α := ?_) (f := ?_) (l := ?_) ?_ ?_); rotate_left; rotate_left; rotate_left; walk_at "gl")
  | ((with_reducible refine w_lenL (l := ?_) ?_ ?_); rotate_left; walk_at "gl")
  | ((with_reducible refine w_iterL (l := ?_) ?_ ?_); rotate_left; walk_at "gl"; dsimp only)
  | ((with_reducible refine w_tupL (l := ?_) ?_ ?_); rotate_left; walk_at "gl")
  | ((with_reducible refine w_ixT (d := ?_) ?_ ?_); rotate_left; (first | with_reducible assumption | rfl))
  | ((with_reducible refine w_ixL (l := ?_) (d := ?_) ?_ ?_ ?_); rotate_left; rotate_left; walk_at "gl"; (first | with_reducible assumption | rfl))
  | ((with_reducible refine w_addT ?_ ?_); walk_at "bd")
  | ((with_reducible refine ⟨?_, ?_⟩); (with_reducible (show isListD (.ref _) _ = true)); walk_at "il")
  | with_reducible refine w_tryK ?_
  | with_reducible refine w_raise ?_
  | with_reducible refine w_raise0 ?_
  | with_reducible refine w_isX ?_
  | ((with_reducible refine w_isXK (k := ?_) ?_ ?_); rotate_left; (first | with_reducible exact lkA | (apply lkB; decide +kernel; exact lkA) | (apply lkB; decide +kernel; apply lkB; decide +kernel; exact lkA) | (apply lkB; decide +kernel; apply lkB; decide +kernel; apply lkB; decide +kernel; exact lkA)))
  | with_reducible refine w_xf ?_
  | ((with_reducible refine w_xfK ?_ ?_ ?_); (exact List.mem_cons_self); (decide))
  | with_reducible refine w_eq (isN_xo _) ?_
  | with_reducible refine w_eq (dNeg_int _ _) ?_)
local macro_rules | `(tactic| walk_at "go") => `(tactic| (repeat (walk_at "w")); try dsimp only [List.set])
local macro_rules | `(tactic| walk_at "fn") => `(tactic| ((refine w_fun ?_); simp only [startD, List.map_cons, List.map_nil, List.reduceReplicate, Nat.reduceSub, List.cons_append, List.nil_append]; walk_at "go"))
section
open PySem L2

local macro_rules | `(tactic| walk_at "lk") => `(tactic| first | with_reducible exact lkA | (apply lkB; decide +kernel; walk_at "lk"))
local macro_rules | `(tactic| walk_at "mk") => `(tactic| first | with_reducible exact mkA | (apply mkB; decide +kernel; walk_at "mk"))
local macro_rules | `(tactic| walk_at "fk") => `(tactic| first | with_reducible exact fkA | exact fkN | (apply fkB; decide +kernel; walk_at "fk"))
local macro_rules | `(tactic| walk_at "cs") => `(tactic| first | exact List.mem_cons_self | (apply List.mem_cons_of_mem; walk_at "cs"))
local macro_rules | `(tactic| walk_at "w") => `(tactic| first
  | with_reducible refine w_fld ?_
  | ((with_reducible refine w_fldK (c := ?_) (fs := ?_) (v := ?_) ?_ ?_ ?_ ?_); rotate_left; rotate_left; rotate_left; (with_reducible assumption); (walk_at "cs"); (walk_at "fk"))
  | with_reducible refine w_setFld ?_
  | with_reducible refine w_new ?_
  | with_reducible refine w_methI ?_
  | ((with_reducible refine w_methK (c := ?_) (fs := ?_) (F := ?_) ?_ ?_ ?_ ?_); rotate_left; rotate_left; rotate_left; (with_reducible assumption); (walk_at "mk"); (walk_at "fk"))
  | with_reducible refine w_isC ?_
  | ((with_reducible refine w_isCK (c := ?_) (fs := ?_) (k := ?_) ?_ ?_ ?_); rotate_left; rotate_left; rotate_left; (with_reducible assumption); (walk_at "lk"))
  | with_reducible refine w_callD ?_
  | with_reducible refine w_mDSet ?_
  | with_reducible refine w_eq (nN_non _) ?_
  | with_reducible refine w_eq (nN_int _ _) ?_
  | with_reducible refine w_eq (nN_tup _ _) ?_
  | with_reducible refine w_eq (nN_ref _ _) ?_
  | with_reducible refine w_eq (iN_non _) ?_
  | with_reducible refine w_eq (iN_int _ _) ?_
  | with_reducible refine w_eq (iN_tup _ _) ?_
  | with_reducible refine w_eq (iN_ref _ _) ?_)
theorem main_k53 : ∀ ns : List Int, ns.length ≤ 63 → (∀ z ∈ ns, Builtin.Int.intBits z ≤ 1048576) → ∃ h', m_law_78873 [.ref 0] [.rol (ns.map D.int)] = .ok (.bl true) h' := by
  intro sc hn hb
  suffices hh : Sat (m_law_78873 [.ref 0] [.rol (sc.map D.int)]) (fun d h' => d = .bl true) noX by
    obtain ⟨d, h', e, rfl⟩ := hh.get
    exact ⟨h', e⟩
  have hb' : ∀ z ∈ sc, Cell z := hb
  generalize hh0 : [MO.rol (sc.map D.int)] = h0
  have g0 : getL h0 0 = some (sc.map D.int) := by rw [← hh0]; rfl
  clear hh0
  walk_at "fn"
  refine (c_cell_at hb' g0 (by decide)).mono ?_
  rintro d h0 ⟨rfl, c0, rfl, hc0⟩
  walk_at "go"
  refine (n_names54 (by decide)).mono ?_
  rintro d h1 ⟨iP, nms, rfl, o1, hl4, hnd, hNm⟩
  obtain ⟨y0, y1, y2, y3, rfl⟩ : ∃ y0 y1 y2 y3, nms = [y0, y1, y2, y3] := by
    obtain ⟨a0, r0, rfl⟩ := List.exists_cons_of_length_pos (l := nms) (by omega)
    obtain ⟨a1, r1, rfl⟩ := List.exists_cons_of_length_pos (l := r0) (by simp only [List.length_cons] at hl4; omega)
    obtain ⟨a2, r2, rfl⟩ := List.exists_cons_of_length_pos (l := r1) (by simp only [List.length_cons] at hl4; omega)
    obtain ⟨a3, r3, rfl⟩ := List.exists_cons_of_length_pos (l := r2) (by simp only [List.length_cons] at hl4; omega)
    have : r3 = [] := List.eq_nil_of_length_eq_zero (by simp only [List.length_cons] at hl4; omega)
    subst this
    exact ⟨a0, a1, a2, a3, rfl⟩
  have g1 := o1.getL g0
  have gP1 := o1.atL 0 rfl
  walk_at "go"
  refine (c_cell_at hb' g1 (by decide)).mono ?_
  rintro d h1 ⟨rfl, c1, rfl, hc1⟩
  walk_at "go"
  refine (c_cell_at hb' g1 (by decide)).mono ?_
  rintro d h1 ⟨rfl, c2, rfl, hc2⟩
  repeat ((fail_if_success (with_reducible refine idIf ?_)); walk_at "w")
  try dsimp only [List.set]
  have ha0 := mod_in c1 (n := 16) (by decide)
  have hb0 := mod_in c2 (n := 16) (by decide)
  obtain ⟨a0, ea0⟩ : ∃ a0 : Nat, 1 + c1 % 16 = (a0 : Int) := ⟨(1 + c1 % 16).toNat, by omega⟩
  obtain ⟨b0, eb0⟩ : ∃ b0 : Nat, 1 + c2 % 16 = (b0 : Int) := ⟨(1 + c2 % 16).toNat, by omega⟩
  have ha1 : 1 ≤ a0 ∧ a0 ≤ 64 := by omega
  have hb1 : 1 ≤ b0 ∧ b0 ≤ 64 := by omega
  rw [ea0, eb0]
  clear ea0 eb0
  refine w_seqM (fun ρ h' => ∃ (a b : Nat) (o13 : Option D), ρ = [some (.ref 0), some (.ref iP), some (.int (a : Int)), some (.int (b : Int)), none, none, none, none, none, none, none, none, none, o13, none, none, none, none] ∧ h1 <+: h' ∧ (1 ≤ a ∧ a ≤ 64) ∧ 1 ≤ b ∧ b ≤ 64) ?_ ?_
  · walk_at "go"
    refine (c_cell_at hb' g1 (by decide)).mono ?_
    rintro d h1 ⟨rfl, c7, rfl, hc7⟩
    walk_at "go"
    refine br_d (fun q => ?_) (fun q => ?_)
    · walk_at "go"
      refine o_new (Own.nil h1) (by simp) fun iS h2 o2 => ?_
      walk_at "go"
      refine (c_cell_at hb' (pre_getL o2.pre g1) (by decide)).mono ?_
      rintro d h2 ⟨rfl, c8, rfl, hc8⟩
      obtain ⟨p, q, es, hp, hq⟩ := some53 (mod_in c8 (n := 8) (by decide))
      walk_at "go"
      exact ⟨_, rfl, p, q, _, rfl, o2.pre, hp, hq⟩
    · walk_at "go"
      exact ⟨a0, b0, none, rfl, List.prefix_rfl, ha1, hb1⟩
  rintro ρ h2 ⟨a, b, o13, rfl, p2, ha, hb⟩
  clear ha0 hb0 ha1 hb1
  have g2 := pre_getL p2 g1
  have gP2 := pre_getL p2 gP1
  walk_at "go"
  refine (c_cell_at hb' g2 (by decide)).mono ?_
  rintro d h2 ⟨rfl, c3, rfl, hc3⟩
  have hm3 := mod_in c3 (n := (a : Int)) (by omega)
  obtain ⟨c, ec, lc⟩ : ∃ c : Nat, c3 % (a : Int) = (c : Int) ∧ c < a := ⟨(c3 % (a : Int)).toNat, by omega, by omega⟩
  walk_at "go"
  refine (c_cell_at hb' g2 (by decide)).mono ?_
  rintro d h2 ⟨rfl, c4, rfl, hc4⟩
  have hm4 := mod_in c4 (n := (b : Int)) (by omega)
  obtain ⟨e, ee, le⟩ : ∃ e : Nat, c4 % (b : Int) = (e : Int) ∧ e < b := ⟨(c4 % (b : Int)).toNat, by omega, by omega⟩
  rw [ec]
  walk_at "go"
  rw [ee]
  refine o_comp (fun k y => y = .int (if k = c then 1 else 0)) (Own.nil h2) (by rw [rangeD_length]; omega) (fun _ _ => rfl) ?_ ?_
  · intro k d h3 hd hp3
    obtain ⟨hk, rfl⟩ := rangeD_get hd
    refine ⟨_, rfl, ?_⟩
    dsimp only [wipeD, List.set]
    rw [Int.zero_add]
    walk_at "go"
    refine w_eq (dInt_bl _ _) ?_
    refine ⟨rfl, ?_⟩
    by_cases z : k = c
    · simp [z]
    · rw [if_neg z, decide_eq_false (by omega)]; rfl
  intro ys hyl hys iA h3 o3
  have := maps_of (f := fun k => D.int (if k = c then 1 else 0)) (n := a) (by rw [hyl, rangeD_length]; omega) hys
  have eys : ys = (mk1C a c).map .int := by rw [this]; unfold mk1C; rw [List.map_map]; rfl
  subst eys
  clear this hys hyl
  walk_at "go"
  refine (k_counter53 ha (o3.atL 0 rfl)).mono ?_
  rintro y h4 ⟨p4, rfl⟩
  have p24 := o3.pre.trans p4
  have gP4 := pre_getL p24 gP2
  walk_at "go"
  refine o_comp (fun k y => y = .int (if k = e then 0 else 1)) (Own.nil h4) (by rw [rangeD_length]; omega) (fun _ _ => rfl) ?_ ?_
  · intro k d h3 hd hp3
    obtain ⟨hk, rfl⟩ := rangeD_get hd
    refine ⟨_, rfl, ?_⟩
    dsimp only [wipeD, List.set]
    rw [Int.zero_add]
    walk_at "go"
    refine w_eq (dInt_bl _ _) ?_
    refine ⟨rfl, ?_⟩
    by_cases z : k = e
    · simp [z]
    · rw [if_neg z, decide_eq_false (by omega)]; rfl
  intro ys hyl hys iB h5 o5
  have := maps_of (f := fun k => D.int (if k = e then 0 else 1)) (n := b) (by rw [hyl, rangeD_length]; omega) hys
  have eys : ys = (mk2C b e).map .int := by rw [this]; unfold mk2C; rw [List.map_map]; rfl
  subst eys
  clear this hys hyl
  walk_at "go"
  refine (k_counter53 hb (o5.atL 0 rfl)).mono ?_
  rintro y h6 ⟨p6, rfl⟩
  have p46 := o5.pre.trans p6
  have gP6 := pre_getL p46 gP4
  have g6 := pre_getL (p24.trans p46) g2
  walk_at "go"
  refine o_new (Own.nil h6) (by simp) fun iF h7 o7 => ?_
  walk_at "go"
  refine (c_cell_at hb' (pre_getL o7.pre g6) (by decide)).mono ?_
  rintro d h7 ⟨rfl, c5, rfl, hc5⟩
  obtain ⟨zf, f, ef1, ef2⟩ := pickF53 (y0 := y0) (y1 := y1) (y2 := y2) (y3 := y3) (mod_in c5 (n := 5) (by decide))
  have gP7 := pre_getL o7.pre gP6
  walk_at "go"
  refine o_new (Own.nil h7) (by simp) fun iG h8 o8 => ?_
  walk_at "go"
  refine (c_cell_at hb' (pre_getL (o7.pre.trans o8.pre) g6) (by decide)).mono ?_
  rintro d h8 ⟨rfl, c6, rfl, hc6⟩
  obtain ⟨zg, f', eg1, eg2⟩ := pickG53 (y0 := y0) (y1 := y1) (y2 := y2) (y3 := y3) (mod_in c6 (n := 5) (by decide))
  have gP8 := pre_getL o8.pre gP7
  walk_at "go"
  clear ef1 eg1
  have l1 : (mk1C a c).length = a := by unfold mk1C; simp
  have l2 : (mk2C b e).length = b := by unfold mk2C; simp
  have q1 : ∀ z ∈ mk1C a c, 0 ≤ z := fun z hz => by
    unfold mk1C at hz
    obtain ⟨k, _, rfl⟩ := List.mem_map.mp hz
    split <;> omega
  have q2 : ∀ z ∈ mk2C b e, 0 ≤ z := fun z hz => by
    unfold mk2C at hz
    obtain ⟨k, _, rfl⟩ := List.mem_map.mp hz
    split <;> omega
  by_cases hf : f = y0
  rotate_left
  · have hn : f ∉ [y0] ∨ f' ∉ [y1] := .inl (by rw [List.mem_singleton]; exact hf)
    refine (k_answerNo53 hn).mono ?_
    rintro y h9 ⟨rfl, rfl⟩
    rw [if_neg (show f ∉ [y0] by rw [List.mem_singleton]; exact hf)]
    have hown := fun h => k_ownNo53 (h := h) (a := a) (b := b) (mk1 := mk1C a c) (mk2 := mk2C b e) hn
    generalize gmD [y0] [] [0] (cntr a) (mk1C a c) = M1 at *
    generalize gmD [y1] [] [0] (cntr b) (mk2C b e) = M2 at *
    walk_at "go"
    refine ⟨_, rfl, ?_⟩
    walk_at "go"
    exact (hown _).mono fun y h' q => q
  subst hf
  by_cases hf' : f' = y1
  rotate_left
  · have hn : f ∉ [f] ∨ f' ∉ [y1] := .inr (by rw [List.mem_singleton]; exact hf')
    refine (k_answerNo53 hn).mono ?_
    rintro y h9 ⟨rfl, rfl⟩
    rw [if_pos (List.mem_singleton.mpr rfl)]
    have hown := fun h => k_ownNo53 (h := h) (a := a) (b := b) (mk1 := mk1C a c) (mk2 := mk2C b e) hn
    generalize gmD [f] [] [0] (cntr a) (mk1C a c) = M1 at *
    generalize gmD [y1] [] [0] (cntr b) (mk2C b e) = M2 at *
    walk_at "go"
    refine ⟨_, rfl, ?_⟩
    walk_at "go"
    exact (hown _).mono fun y h' q => q
  subst hf'
  have C := cm_lcm (a := a) (b := b) (by omega) (by omega)
  obtain ⟨m, em⟩ : ∃ m, m = Nat.lcm a b := ⟨_, rfl⟩
  rw [← em] at C
  refine (k_answer53 C l1 l2 q1 q2).mono ?_
  rintro y h9 ⟨p9, hy⟩
  have hown := fun h (hm : 64 < m) => k_own53 (h := h) (f1 := f) (f2 := f') C l1 l2 q1 q2 hm
  have gP9 := pre_getL p9 gP8
  obtain ⟨w, fd, x0, rfl⟩ : ∃ w fd x0, y = .tup [.str w, .str fd, x0] := by
    rcases hy with ⟨_, rfl⟩ | ⟨_, _, _, _, _, _, rfl, _⟩
    · exact ⟨_, _, _, rfl⟩
    · exact ⟨_, _, _, rfl⟩
  generalize gmD [f] [] [0] (cntr a) (mk1C a c) = M1 at *
  generalize gmD [f'] [] [0] (cntr b) (mk2C b e) = M2 at *
  refine ⟨_, rfl, ?_⟩
  walk_at "go"
  have dA := Nat.dvd_of_mod_eq_zero C.ma
  obtain ⟨s, es⟩ := dA
  have hm0 := C.hm
  have hs1 : 1 ≤ s := by
    rcases Nat.eq_zero_or_pos s with z | z
    · rw [z, Nat.mul_zero] at es; omega
    · exact z
  have hsb : s ≤ b := by
    have h1 : m ≤ a * b := by rw [em]; exact Nat.le_of_dvd (Nat.mul_pos (by omega) (by omega)) (Nat.lcm_dvd (Nat.dvd_mul_right a b) (Nat.dvd_mul_left b a))
    rw [es] at h1
    exact Nat.le_of_mul_le_mul_left h1 (by omega)
  refine w_while (fun mm ρ h' => ∃ t : Nat, mm + t = s ∧ 1 ≤ t ∧ h' = h9 ∧ ρ = [some (.ref 0), some (.ref iP), some (.int (a : Int)), some (.int (b : Int)), some (.int (c : Int)), some (.int (e : Int)), some M1, some M2, some (.str f), some (.str f'), some (.int ((a * t : Nat) : Int)), none, none, o13, some (.str w), some (.str fd), some x0, none]) (s - 1) (by omega) ⟨1, by omega, by omega, rfl, by rw [Nat.mul_one]⟩ ?_
  rintro mm ρ h10 ⟨t, ht, t1, rfl, rfl⟩
  walk_at "go"
  rw [← Int.natCast_emod]
  by_cases qz : (a * t) % b = 0
  rotate_left
  · have tlt : t < s := by
      rcases Nat.lt_or_ge t s with z | z
      · exact z
      · have : t = s := by omega
        rw [this, ← es] at qz
        exact absurd C.mb qz
    refine br_df (by omega) ?_
    walk_at "go"
    exact ⟨mm - 1, by omega, t + 1, by omega, by omega, rfl, by rw [Nat.mul_succ, Int.natCast_add]⟩
  have ets : t = s := by
    rcases Nat.lt_or_ge t s with z | z
    · exact absurd ⟨Nat.mul_mod_right a t, qz⟩ (C.le (a * t) (Nat.mul_pos (by omega) (by omega)) (by rw [es]; exact Nat.mul_lt_mul_of_pos_left z (by omega)))
    · omega
  subst ets
  rw [← es, C.mb]
  walk_at "go"
  refine br_d (fun q => ?_) (fun q => ?_)
  · rcases hy with ⟨_, ey⟩ | ⟨F, ps, t, x, jp, E, ey, g⟩
    · cases ey
      walk_at "go"
      exact (hown _ (by omega)).mono fun y h' q => q
    · have := F_len C E
      have := E.le
      omega
  rcases hy with ⟨lt, _⟩ | ⟨F, ps, tb, x, jp, E, ey, g⟩
  · omega
  cases ey
  walk_at "go"
  refine o_comp (fun k y => y = triD (((k % a : Nat) : Int), ((k % b : Nat) : Int), ((k + 1 : Nat) : Int))) (Own.nil h10) (by rw [rangeD_length]; omega) (fun _ _ => rfl) ?_ ?_
  · intro k d h3 hd hp3
    obtain ⟨hk, rfl⟩ := rangeD_get hd
    refine ⟨_, rfl, ?_⟩
    dsimp only [wipeD, List.set]
    rw [Int.zero_add]
    walk_at "go"
    refine ⟨rfl, ?_⟩
    unfold triD
    rw [Int.natCast_emod, Int.natCast_emod, Int.natCast_add]
    rfl
  intro ys hyl hys iD h11 o11
  have := maps_of (f := fun k => triD (((k % a : Nat) : Int), ((k % b : Nat) : Int), ((k + 1 : Nat) : Int))) (n := m) (by rw [hyl, rangeD_length]; omega) hys
  have eys : ys = (dueC a b m).map triD := by rw [this]; unfold dueC; rw [List.map_map]; rfl
  subst eys
  clear this hys hyl
  have gj := getL_of (pre_get o11.pre g)
  walk_at "go"
  refine w_sortQ (o11.atL 0 rfl) ?_
  have gj2 := pre_getL (List.prefix_append h11 [.lst ((sortQ (dueC a b m)).map triD)]) gj
  have gs : getL (h11 ++ [.lst ((sortQ (dueC a b m)).map triD)]) h11.length = some ((sortQ (dueC a b m)).map triD) := getL_of (by simp)
  generalize h11 ++ [.lst ((sortQ (dueC a b m)).map triD)] = h12 at *
  refine w_neK (eqD_L53 (pln_tris _) (pln_tris _) (by decide) gj2 gs) ?_
  rw [paper_C C E, decide_eq_true rfl]
  walk_at "go"
  rw [Int.toNat_natCast]
  refine o_compF54 (bfC a b c e) id (Own.nil h12) (by rw [rangeD_length]; omega) (fun _ _ => rfl) ?_ ?_
  · intro k d h3 hd hp3
    obtain ⟨hk, rfl⟩ := rangeD_get hd
    refine ⟨_, rfl, ?_, ?_⟩
    · dsimp only [wipeD, List.set]
      have eb : bfC a b c e (.int (0 + (k : Int))) = (decide ((0 + (k : Int)) % (a : Int) = (c : Int)) && decide ((0 + (k : Int)) % (b : Int) = (e : Int))) := rfl
      rw [eb, Int.zero_add]
      walk_at "go"
      refine br_d (fun z => ?_) (fun z => ?_)
      · walk_at "go"
        refine ⟨rfl, ?_⟩
        rw [decide_eq_true z]; rfl
      · walk_at "go"
        refine ⟨rfl, ?_⟩
        rw [decide_eq_false z]; rfl
    · dsimp only [wipeD, List.set]
      walk_at "go"
      exact ⟨rfl, rfl⟩
  intro iQ h13 o13
  rw [bad_eq] at o13
  walk_at "go"
  refine o_new (Own.nil h13) (by simp) fun iE h14 o14 => ?_
  walk_at "go"
  have gQ := pre_getL o14.pre (o13.atL 0 rfl)
  refine w_eqK (eqD_L53 (pln_ints53 _) (m := []) (by rw [plns]; trivial) (by decide) gQ (o14.atL 0 rfl)) ?_
  rcases ans_C C E with ⟨rfl, eb⟩ | ⟨es, ss, s0, k0, rfl, K, hl, hz, hne, h0⟩
  · rw [eb]
    rw [List.map_nil, List.map_nil, decide_eq_true rfl]
    walk_at "go"
  · rw [decide_eq_false (by simp [hne])]
    walk_at "go"
    refine (k_size53 K hl).mono ?_
    rintro y h15 ⟨p15, rfl⟩
    have gQ15 := pre_getL p15 gQ
    have a0 : atI (((badC a b c e m).map fun (k : Nat) => (k : Int)).map D.int) 0 = some (.int (k0 : Int)) := atI_at (k := 0) (by rw [List.getElem?_map, List.getElem?_map, h0]; rfl)
    walk_at "go"
    rw [hz, Int.natCast_add, decide_eq_true (show ((k0 : Int) + ((1 : Nat) : Int)) = (k0 : Int) + 1 from rfl)]
end
end Mi


namespace Sk53
open PySem L2 Mi
def top (i : Nat) : Stmt := PySem.Challenge.pw_graftform_k53_counters_held_together.main.body.getD i (.Pass ⟨0, 0, 0, 0⟩)
/-- what the top leaves: names of built-ins that are not bound, constants -/
structure Txt (K : PySem.W.Frag) (mg : Str → Option Value) : Prop where
  b_ValueError : mg "ValueError" = none
  b_int : mg "int" = none
  b_isinstance : mg "isinstance" = none
  b_len : mg "len" = none
  b_list : mg "list" = none
  b_min : mg "min" = none
  b_range : mg "range" = none
  b_set : mg "set" = none
  b_sorted : mg "sorted" = none
  b_tuple : mg "tuple" = none
  g_LETTERS : ∃ t, mg "LETTERS" = some (.str (Str.ofString "abcdefghijklmnopqrstuvwxyz") t)
  g_STATES : ∃ t, mg "STATES" = some (.int (64) t)
  ct_numbers : CT K "numbers" [(Str.ofString "PairGrower")]
  ct_one : CT K "one" [(Str.ofString "PairGrower")]
  ct_other : CT K "other" [(Str.ofString "PairGrower")]
  ct_states : CT K "states" [(Str.ofString "PairGrower")]
  ex_GraftError : ExT K mg "GraftError" [((Str.ofString "NoForm"), true), ((Str.ofString "TooMany"), true)]
  ex_NoForm : ExT K mg "NoForm" [((Str.ofString "NoForm"), true), ((Str.ofString "TooMany"), false)]
  ex_TooMany : ExT K mg "TooMany" [((Str.ofString "NoForm"), false), ((Str.ofString "TooMany"), true)]
  fl_form : FlT K "form" [(Str.ofString "NoForm")]
  is_NoBook_NoDocument_NoName_NoPattern_NoPlace_NoRow_NoTurner_TooLarge : IsTs K mg [(Str.ofString "NoBook"), (Str.ofString "NoDocument"), (Str.ofString "NoName"), (Str.ofString "NoPattern"), (Str.ofString "NoPlace"), (Str.ofString "NoRow"), (Str.ofString "NoTurner"), (Str.ofString "TooLarge")] [((Str.ofString "NoForm"), false), ((Str.ofString "TooMany"), false)]
  is_NoForm : IsT K mg "NoForm" [((Str.ofString "NoForm"), true), ((Str.ofString "TooMany"), false)]
  is_TooMany : IsT K mg "TooMany" [((Str.ofString "NoForm"), false), ((Str.ofString "TooMany"), true)]
  is_ValueError : IsB K "ValueError" [((Str.ofString "NoForm"), true), ((Str.ofString "TooMany"), true)]
  r_TooMany : X0 K mg "TooMany"
theorem sc_init_NoForm : FnScope ["self", "form"] ["self", "form"] (defScope (inner (top 7) 0)) := ⟨rfl, rfl, rfl, by decide +kernel, rfl, by decide +kernel, by decide +kernel⟩
section
variable {P : Program} {w : World} {K : PySem.W.Frag} {mg : Str → Option Value} {base : Heap}
theorem sc__law_any_names : FnScope ["_law_cell", "_law_many", "_law_letters", "_law_found", "_law_k", "_law_size_here", "_law_word", "_law_j"] ["_law_cell", "_law_many"] (defScope (top 36)) := ⟨rfl, rfl, rfl, by decide +kernel, rfl, by decide +kernel, by decide +kernel⟩
theorem sim__law_any_names (T : Txt K mg) (d : Df K mg "_law_any_names" (top 36) ["_law_cell", "_law_many"]) : Cal P w K mg base "_law_any_names" 1 (m_any_names_23d34) := by
  exact cal_mk (k := 0) d sc__law_any_names fun f cdv A outer s H E hr => by
   have tk : Takes (cxOf (L2.CX P w) P w K mg base ["_law_cell", "_law_many", "_law_letters", "_law_found", "_law_k", "_law_size_here", "_law_word", "_law_j"] "_law_any_names" (defScope (top 36)) f cdv A outer s H E) (fun c d _ H' => E c d H') := takes_of rfl rfl rfl rfl
   have hu : (A.deeper (PyProof.Rows.envOfC "_law_any_names" (defScope (top 36)) s.heap.objs.size f cdv)).units + 65 < cLine := by have := hr.un; omega
   have S := sc__law_any_names
   exact ss_cons (sx_set (i := 2) (se_str) S.nd)
      (ss_cons (sx_set (i := 3) (se_lst (sa_nil)) S.nd)
      (ss_cons (sx_for (passes_of rfl) (si_range1 T.b_range (mv 1)) (sg_name (i := 4) S.nd)
      (ss_cons (sx_set (i := 5) (se_bin op_addA s2_add (se_int) (se_bin op_mod s2_mod (mv 0) (se_int))) S.nd)
      (ss_cons (sx_set (i := 0) (se_bin op_fdivW s2_fdiv (mv 0) (se_int)) S.nd)
      (ss_cons (sx_set (i := 6) (se_str) S.nd)
      (ss_cons (sx_while 1000 (passes_of rfl) (st_cmp op_lt s2_lt (se_callB call_len sn_len (by rfl) T.b_len (by decide +kernel) (sa_cons (mv 6) (sa_nil))) (mv 5) (nomark _))
      (ss_cons (sx_set (i := 6) (se_bin op_addA s2_add (mv 6) (se_ix ix_seq s2_ix (mv 2) (se_bin op_mod s2_mod (mv 0) (se_int)) (fun _ _ => rfl))) S.nd)
      (ss_one (sx_set (i := 0) (se_bin op_fdivW s2_fdiv (mv 0) (se_int)) S.nd))))
      (ss_cons (sx_set (i := 7) (se_int) S.nd)
      (ss_cons (sx_while 1000 (passes_of rfl) (st_cmp (op_inA hu) s2_in (mv 6) (mv 3) rfl)
      (ss_cons (sx_set (i := 6) (se_bin op_mulA s2_mul (se_ix ix_seq s2_ix (mv 2) (se_bin op_mod s2_mod (mv 7) (se_int)) (fun _ _ => rfl)) (se_bin op_addA s2_add (se_int) (se_bin op_fdivW s2_fdiv (mv 7) (se_int)))) S.nd)
      (ss_one (sx_set (i := 7) (se_bin op_addA s2_add (mv 7) (se_int)) S.nd))))
      (ss_one (sx_expr (se_bm PySem.F.plainAttrs_list PySem.F.slot_list_append PySem.F.type_list_append mt_append sty_list sm_append (mv 3) (sa_cons (mv 6) (sa_nil))))))))))))
      (ss_one (sx_ret (mv 3)))))
theorem sc__law_names : FnScope ["_law_cell", "_law_many", "_law_letters", "_law_number", "_law_base", "_law_at", "_law_size_here", "_law_found", "_law_k", "_law_sign"] ["_law_cell", "_law_many"] (defScope (top 37)) := ⟨rfl, rfl, rfl, by decide +kernel, rfl, by decide +kernel, by decide +kernel⟩
theorem sim__law_names (T : Txt K mg) (d : Df K mg "_law_names" (top 37) ["_law_cell", "_law_many"]) (c__law_any_names : Cal P w K mg base "_law_any_names" 1 (m_any_names_23d34)) : Cal P w K mg base "_law_names" 2 (m_names_53c1e) := by
  exact cal_mk (k := 1) d sc__law_names fun f cdv A outer s H E hr => by
   have tk : Takes (cxOf (L2.CX P w) P w K mg base ["_law_cell", "_law_many", "_law_letters", "_law_number", "_law_base", "_law_at", "_law_size_here", "_law_found", "_law_k", "_law_sign"] "_law_names" (defScope (top 37)) f cdv A outer s H E) (fun c d _ H' => E c d H') := takes_of rfl rfl rfl rfl
   have hu : (A.deeper (PyProof.Rows.envOfC "_law_names" (defScope (top 37)) s.heap.objs.size f cdv)).units + 65 < cLine := by have := hr.un; omega
   have S := sc__law_names
   exact ss_cons (sx_set (i := 2) (se_str) S.nd)
      (ss_cons (sx_if (st_cmp op_ge s2_ge (mv 0) (se_bin op_pow s2_pow (se_int) (se_int)) (nomark _))
      (ss_one (sx_ret (se_callC c__law_any_names (hr.mono (by omega)) tk (sa_cons (mv 0) (sa_cons (mv 1) (sa_nil))))))
      (ss_nil))
      (ss_cons (sx_set (i := 3) (se_bin op_mod s2_mod (mv 0) (se_int)) S.nd)
      (ss_cons (sx_set (i := 4) (se_bm PySem.F.plainAttrs_str PySem.F.slot_str_join PySem.F.type_str_join mt_join sty_str sm_join (se_str) (sa_cons (se_lc (own := [("_law_k", 8)]) S.nd (si_range1 T.b_range (se_int)) (blkOk_by (N := ["_law_cell", "_law_many", "_law_letters", "_law_number", "_law_base", "_law_at", "_law_size_here", "_law_found", "_law_k", "_law_sign"]) (sc := defScope (top 37)) (by decide +kernel)) (tg_name 8) (fun _ _ _ _ _ => pg_name (i := 8) S.nd rfl (by first | exact Or.inl rfl | exact Or.inr rfl)) (fun _ _ _ _ _ => st_nil) (fun _ _ _ _ _ => se_ix ix_seq s2_ix (mv 2) (se_bin op_mod s2_mod (se_bin op_mod s2_mod (se_bin op_mulA s2_mul (mv 3) (se_bin op_addA s2_add (se_bin op_mulA s2_mul (mv 8) (mv 8)) (se_int))) (se_int)) (se_int)) (fun _ _ => rfl))) (sa_nil))) S.nd)
      (ss_cons (sx_if (st_cmp (op_eqA hu) s2_eq (se_bin op_mod s2_mod (mv 3) (se_int)) (se_int) (nomark _))
      (ss_one (sx_ret (se_lc (own := [("_law_k", 8)]) S.nd (si_range1 T.b_range (mv 1)) (blkOk_by (N := ["_law_cell", "_law_many", "_law_letters", "_law_number", "_law_base", "_law_at", "_law_size_here", "_law_found", "_law_k", "_law_sign"]) (sc := defScope (top 37)) (by decide +kernel)) (tg_name 8) (fun _ _ _ _ _ => pg_name (i := 8) S.nd rfl (by first | exact Or.inl rfl | exact Or.inr rfl)) (fun _ _ _ _ _ => st_nil) (fun _ _ _ _ _ => se_slice (mv 4) (sp_none) (sp_some (se_bin op_addA s2_add (mv 8) (se_int)))))))
      (ss_nil))
      (ss_cons (sx_set (i := 5) (se_bin op_mod s2_mod (se_bin op_fdivW s2_fdiv (mv 3) (se_int)) (se_int)) S.nd)
      (ss_cons (sx_set (i := 6) (se_bin op_addA s2_add (se_bin op_addA s2_add (mv 5) (se_int)) (se_bin op_mod s2_mod (se_bin op_fdivW s2_fdiv (mv 3) (se_int)) (se_bin op_sub s2_sub (se_int) (mv 5)))) S.nd)
      (ss_cons (sx_set (i := 7) (se_lst (sa_nil)) S.nd)
      (ss_cons (sx_for (passes_of rfl) (si_range1 T.b_range (mv 1)) (sg_name (i := 8) S.nd)
      (ss_cons (sx_set (i := 9) (se_ix ix_seq s2_ix (mv 2) (se_bin op_mod s2_mod (se_bin op_addA s2_add (se_bin op_fdivW s2_fdiv (mv 3) (se_int)) (mv 8)) (se_int)) (fun _ _ => rfl)) S.nd)
      (ss_one (sx_expr (se_bm PySem.F.plainAttrs_list PySem.F.slot_list_append PySem.F.type_list_append mt_append sty_list sm_append (mv 7) (sa_cons (se_slice (se_bin op_addA s2_add (se_bin op_addA s2_add (se_slice (mv 4) (sp_none) (sp_some (mv 5))) (mv 9)) (se_slice (mv 4) (sp_some (se_bin op_addA s2_add (mv 5) (se_int))) (sp_none))) (sp_none) (sp_some (mv 6))) (sa_nil)))))))
      (ss_one (sx_ret (mv 7)))))))))))
theorem sc__law_counter : FnScope ["_law_form", "_law_many", "_law_marks", "_law_steps", "_law_p", "_law_q"] ["_law_form", "_law_many", "_law_marks"] (defScope (top 38)) := ⟨rfl, rfl, rfl, by decide +kernel, rfl, by decide +kernel, by decide +kernel⟩
theorem sim__law_counter (T : Txt K mg) (d : Df K mg "_law_counter" (top 38) ["_law_form", "_law_many", "_law_marks"]) : Cal P w K mg base "_law_counter" 1 (m_counter_e5d84) := by
  exact cal_mk (k := 0) d sc__law_counter fun f cdv A outer s H E hr => by
   have tk : Takes (cxOf (L2.CX P w) P w K mg base ["_law_form", "_law_many", "_law_marks", "_law_steps", "_law_p", "_law_q"] "_law_counter" (defScope (top 38)) f cdv A outer s H E) (fun c d _ H' => E c d H') := takes_of rfl rfl rfl rfl
   have hu : (A.deeper (PyProof.Rows.envOfC "_law_counter" (defScope (top 38)) s.heap.objs.size f cdv)).units + 65 < cLine := by have := hr.un; omega
   have S := sc__law_counter
   exact ss_cons (sx_set (i := 3) (se_callTy call_tupF sn_tuple (by rfl) T.b_tuple (by decide +kernel) (sa_cons (se_lc (own := [("_law_p", 4)]) S.nd (si_range1 T.b_range (mv 1)) (blkOk_by (N := ["_law_form", "_law_many", "_law_marks", "_law_steps", "_law_p", "_law_q"]) (sc := defScope (top 38)) (by decide +kernel)) (tg_name 4) (fun _ _ _ _ _ => pg_name (i := 4) S.nd rfl (by first | exact Or.inl rfl | exact Or.inr rfl)) (fun _ _ _ _ _ => st_nil) (fun _ _ _ _ _ => se_callTy call_tupF sn_tuple (by rfl) T.b_tuple (by decide +kernel) (sa_cons (se_lc (own := [("_law_q", 5)]) S.nd (si_range1 T.b_range (mv 1)) (blkOk_by (by kernel_rfl)) (tg_name 5) (fun _ _ _ _ _ => pg_name (i := 5) S.nd rfl (by first | exact Or.inl rfl | exact Or.inr rfl)) (fun _ _ _ _ _ => st_nil) (fun _ _ _ _ _ => se_bin op_mod s2_mod (se_bin op_addA s2_add (mv 4) (se_int)) (mv 1))) (sa_nil)))) (sa_nil))) S.nd)
      (ss_one (sx_ret (se_tup (sa_cons (se_tup (sa_cons (mv 0) (sa_nil))) (sa_cons (se_tup (sa_nil)) (sa_cons (se_tup (sa_cons (se_int) (sa_nil))) (sa_cons (mv 3) (sa_cons (se_callTy call_tupF sn_tuple (by rfl) T.b_tuple (by decide +kernel) (sa_cons (mv 2) (sa_nil))) (sa_nil)))))))))
theorem sc_Grower___init___c : FnScope ["self"] ["self"] (defScope (inner (top 14) 0)) := ⟨rfl, rfl, rfl, by decide +kernel, rfl, by decide +kernel, by decide +kernel⟩
theorem sim_Grower___init___c (T : Txt K mg) (d : Dc K mg "Grower" "__init__" "Grower.__init__" (inner (top 14) 0) ["self"]) : CfOf P w K mg base "Grower" "__init__" 1 (m_Grower___init___c_31163) := by
  exact cfof_mk (k := 0) d sc_Grower___init___c fun f cdv A outer s H E hr => by
   have tk : Takes (cxOf (L2.CX P w) P w K mg base ["self"] "Grower.__init__" (defScope (inner (top 14) 0)) f cdv A outer s H E) (fun c d _ H' => E c d H') := takes_of rfl rfl rfl rfl
   have hu : (A.deeper (PyProof.Rows.envOfC "Grower.__init__" (defScope (inner (top 14) 0)) s.heap.objs.size f cdv)).units + 65 < cLine := by have := hr.un; omega
   have S := sc_Grower___init___c
   exact ss_cons (sx_setFld T.ct_numbers (mv 0) (se_dict0))
      (ss_one (sx_setFld T.ct_states (mv 0) (se_lst (sa_nil))))
theorem sc_PairGrower___init__ : FnScope ["self", "one", "other"] ["self", "one", "other"] (defScope (inner (top 15) 0)) := ⟨rfl, rfl, rfl, by decide +kernel, rfl, by decide +kernel, by decide +kernel⟩
theorem sim_PairGrower___init__ (T : Txt K mg) (d : Di K mg "PairGrower" "PairGrower.__init__" (inner (top 15) 0) ["self", "one", "other"]) (c_Grower___init___c : CfOf P w K mg base "Grower" "__init__" 1 (m_Grower___init___c_31163)) : MkOf P w K mg base "PairGrower" 2 (m_PairGrower___init___06085) := by
  exact mkof_mk (k := 1) d sc_PairGrower___init__ fun f cdv A outer s H E hr => by
   have tk : Takes (cxOf (L2.CX P w) P w K mg base ["self", "one", "other"] "PairGrower.__init__" (defScope (inner (top 15) 0)) f cdv A outer s H E) (fun c d _ H' => E c d H') := takes_of rfl rfl rfl rfl
   have hu : (A.deeper (PyProof.Rows.envOfC "PairGrower.__init__" (defScope (inner (top 15) 0)) s.heap.objs.size f cdv)).units + 65 < cLine := by have := hr.un; omega
   have S := sc_PairGrower___init__
   exact ss_cons (sx_expr (se_clsCall c_Grower___init___c (hr.mono (by omega)) tk (sa_cons (mv 0) (sa_nil))))
      (ss_cons (sx_setFld T.ct_one (mv 0) (mv 1))
      (ss_one (sx_setFld T.ct_other (mv 0) (mv 2))))
theorem sc_all_names : FnScope ["some", "others"] ["some", "others"] (defScope (top 17)) := ⟨rfl, rfl, rfl, by decide +kernel, rfl, by decide +kernel, by decide +kernel⟩
theorem sim_all_names (T : Txt K mg) (d : Df K mg "all_names" (top 17) ["some", "others"]) : Cal P w K mg base "all_names" 1 (m_all_names_5befd) := by
  exact cal_mk (k := 0) d sc_all_names fun f cdv A outer s H E hr => by
   have tk : Takes (cxOf (L2.CX P w) P w K mg base ["some", "others"] "all_names" (defScope (top 17)) f cdv A outer s H E) (fun c d _ H' => E c d H') := takes_of rfl rfl rfl rfl
   have hu : (A.deeper (PyProof.Rows.envOfC "all_names" (defScope (top 17)) s.heap.objs.size f cdv)).units + 65 < cLine := by have := hr.un; omega
   have S := sc_all_names
   exact ss_one (sx_ret (se_sortSet rfl hu (se_bin op_addA s2_add (se_callTy call_list_of sn_list (by rfl) T.b_list (by decide +kernel) (sa_cons (mv 0) (sa_nil))) (se_callTy call_list_of sn_list (by rfl) T.b_list (by decide +kernel) (sa_cons (mv 1) (sa_nil)))) T.b_sorted T.b_set))
theorem sc_PairGrower_number : FnScope ["self", "state"] ["self", "state"] (defScope (inner (top 14) 2)) := ⟨rfl, rfl, rfl, by decide +kernel, rfl, by decide +kernel, by decide +kernel⟩
theorem sim_PairGrower_number (T : Txt K mg) (d : Dm K "PairGrower" "number" "Grower.number" (inner (top 14) 2) ["self", "state"]) : MtOf P w K mg base "PairGrower" "number" 1 (m_PairGrower_number_cc1e1) := by
  obtain ⟨t_STATES, g_STATES⟩ := T.g_STATES
  exact mtof_mk (k := 0) d sc_PairGrower_number fun f cdv A outer s H E hr => by
   have tk : Takes (cxOf (L2.CX P w) P w K mg base ["self", "state"] "Grower.number" (defScope (inner (top 14) 2)) f cdv A outer s H E) (fun c d _ H' => E c d H') := takes_of rfl rfl rfl rfl
   have hu : (A.deeper (PyProof.Rows.envOfC "Grower.number" (defScope (inner (top 14) 2)) s.heap.objs.size f cdv)).units + 65 < cLine := by have := hr.un; omega
   have S := sc_PairGrower_number
   exact ss_cons (sx_if (st_cmp (op_aNotIn hu) s2_aNotIn (mv 1) (se_fld T.ct_numbers (mv 0)) rfl)
      (ss_cons (sx_if (st_cmp (op_eqA hu) s2_eq (se_callB call_len sn_len (by rfl) T.b_len (by decide +kernel) (sa_cons (se_fld T.ct_states (mv 0)) (sa_nil))) (se_globI (by rfl) g_STATES) (nomark _))
      (ss_one (sx_raise0 T.r_TooMany tk))
      (ss_nil))
      (ss_cons (sx_aset hu (se_fld T.ct_numbers (mv 0)) (mv 1) (se_callB call_len sn_len (by rfl) T.b_len (by decide +kernel) (sa_cons (se_fld T.ct_states (mv 0)) (sa_nil))))
      (ss_one (sx_expr (se_bm PySem.F.plainAttrs_list PySem.F.slot_list_append PySem.F.type_list_append mt_append sty_list sm_append (se_fld T.ct_states (mv 0)) (sa_cons (mv 1) (sa_nil)))))))
      (ss_nil))
      (ss_one (sx_ret (se_aix hu (se_fld T.ct_numbers (mv 0)) (mv 1) (fun _ _ => rfl))))
theorem sc_PairGrower_step : FnScope ["self", "one", "other"] ["self", "one", "other"] (defScope (inner (top 15) 1)) := ⟨rfl, rfl, rfl, by decide +kernel, rfl, by decide +kernel, by decide +kernel⟩
theorem sim_PairGrower_step (T : Txt K mg) (d : Dm K "PairGrower" "step" "PairGrower.step" (inner (top 15) 1) ["self", "one", "other"]) : MtOf P w K mg base "PairGrower" "step" 1 (m_PairGrower_step_cba85) := by
  exact mtof_mk (k := 0) d sc_PairGrower_step fun f cdv A outer s H E hr => by
   have tk : Takes (cxOf (L2.CX P w) P w K mg base ["self", "one", "other"] "PairGrower.step" (defScope (inner (top 15) 1)) f cdv A outer s H E) (fun c d _ H' => E c d H') := takes_of rfl rfl rfl rfl
   have hu : (A.deeper (PyProof.Rows.envOfC "PairGrower.step" (defScope (inner (top 15) 1)) s.heap.objs.size f cdv)).units + 65 < cLine := by have := hr.un; omega
   have S := sc_PairGrower_step
   exact ss_one (sx_ret (se_tup (sa_cons (se_ix ix_seq s2_ix (se_ix ix_seq s2_ix (se_ix ix_seq s2_ix (se_fld T.ct_one (mv 0)) (se_int) (fun _ _ => rfl)) (se_ix ix_seq s2_ix (mv 1) (se_int) (fun _ _ => rfl)) (fun _ _ => rfl)) (se_ix ix_seq s2_ix (mv 2) (se_int) (fun _ _ => rfl)) (fun _ _ => rfl)) (sa_cons (se_ix ix_seq s2_ix (se_ix ix_seq s2_ix (se_ix ix_seq s2_ix (se_fld T.ct_other (mv 0)) (se_int) (fun _ _ => rfl)) (se_ix ix_seq s2_ix (mv 1) (se_int) (fun _ _ => rfl)) (fun _ _ => rfl)) (se_ix ix_seq s2_ix (mv 2) (se_int) (fun _ _ => rfl)) (fun _ _ => rfl)) (sa_nil)))))
theorem sc_PairGrower_tables : FnScope ["self", "starts", "firsts", "steps", "p", "many", "rows", "q", "state"] ["self", "starts"] (defScope (inner (top 14) 3)) := ⟨rfl, rfl, rfl, by decide +kernel, rfl, by decide +kernel, by decide +kernel⟩
theorem sim_PairGrower_tables (T : Txt K mg) (d : Dm K "PairGrower" "tables" "Grower.tables" (inner (top 14) 3) ["self", "starts"]) (c_PairGrower_number : MtOf P w K mg base "PairGrower" "number" 1 (m_PairGrower_number_cc1e1)) (c_PairGrower_step : MtOf P w K mg base "PairGrower" "step" 1 (m_PairGrower_step_cba85)) : MtOf P w K mg base "PairGrower" "tables" 2 (m_PairGrower_tables_dba21) := by
  exact mtof_mk (k := 1) d sc_PairGrower_tables fun f cdv A outer s H E hr => by
   have tk : Takes (cxOf (L2.CX P w) P w K mg base ["self", "starts", "firsts", "steps", "p", "many", "rows", "q", "state"] "Grower.tables" (defScope (inner (top 14) 3)) f cdv A outer s H E) (fun c d _ H' => E c d H') := takes_of rfl rfl rfl rfl
   have hu : (A.deeper (PyProof.Rows.envOfC "Grower.tables" (defScope (inner (top 14) 3)) s.heap.objs.size f cdv)).units + 65 < cLine := by have := hr.un; omega
   have S := sc_PairGrower_tables
   exact ss_cons (sx_set (i := 2) (se_callTy call_tupF sn_tuple (by rfl) T.b_tuple (by decide +kernel) (sa_cons (se_lc (own := [("state", 8)]) S.nd (si_iter (mv 1)) (blkOk_by (N := ["self", "starts", "firsts", "steps", "p", "many", "rows", "q", "state"]) (sc := defScope (inner (top 14) 3)) (by decide +kernel)) (tg_name 8) (fun _ _ _ _ _ => pg_name (i := 8) S.nd rfl (by first | exact Or.inl rfl | exact Or.inr rfl)) (fun _ _ _ _ _ => st_nil) (fun _ _ _ _ _ => se_meth (k := 1) (mt_cons (MtOf.mono c_PairGrower_number (by omega)) (mt_nil)) (hr.mono (by omega)) takes0 (mv 0) (sa_cons (mv 8) (sa_nil)))) (sa_nil))) S.nd)
      (ss_cons (sx_set (i := 3) (se_dict0) S.nd)
      (ss_cons (sx_set (i := 4) (se_int) S.nd)
      (ss_cons (sx_while 1000 (passes_of rfl) (st_cmp op_lt s2_lt (mv 4) (se_callB call_len sn_len (by rfl) T.b_len (by decide +kernel) (sa_cons (se_fld T.ct_states (mv 0)) (sa_nil))) (nomark _))
      (ss_cons (sx_for (passes_of rfl) (si_range1 T.b_range (se_bin op_addA s2_add (mv 4) (se_int))) (sg_name (i := 7) S.nd)
      (ss_cons (sx_aset hu (mv 3) (se_tup (sa_cons (mv 4) (sa_cons (mv 7) (sa_nil)))) (se_meth (k := 1) (mt_cons (MtOf.mono c_PairGrower_number (by omega)) (mt_nil)) (hr.mono (by omega)) tk (mv 0) (sa_cons (se_meth (k := 1) (mt_cons (MtOf.mono c_PairGrower_step (by omega)) (mt_nil)) (hr.mono (by omega)) tk (mv 0) (sa_cons (se_ix ix_seq s2_ix (se_fld T.ct_states (mv 0)) (mv 4) (fun _ _ => rfl)) (sa_cons (se_ix ix_seq s2_ix (se_fld T.ct_states (mv 0)) (mv 7) (fun _ _ => rfl)) (sa_nil)))) (sa_nil))))
      (ss_one (sx_aset hu (mv 3) (se_tup (sa_cons (mv 7) (sa_cons (mv 4) (sa_nil)))) (se_meth (k := 1) (mt_cons (MtOf.mono c_PairGrower_number (by omega)) (mt_nil)) (hr.mono (by omega)) tk (mv 0) (sa_cons (se_meth (k := 1) (mt_cons (MtOf.mono c_PairGrower_step (by omega)) (mt_nil)) (hr.mono (by omega)) tk (mv 0) (sa_cons (se_ix ix_seq s2_ix (se_fld T.ct_states (mv 0)) (mv 7) (fun _ _ => rfl)) (sa_cons (se_ix ix_seq s2_ix (se_fld T.ct_states (mv 0)) (mv 4) (fun _ _ => rfl)) (sa_nil)))) (sa_nil)))))))
      (ss_one (sx_set (i := 4) (se_bin op_addA s2_add (mv 4) (se_int)) S.nd))))
      (ss_cons (sx_set (i := 5) (se_callB call_len sn_len (by rfl) T.b_len (by decide +kernel) (sa_cons (se_fld T.ct_states (mv 0)) (sa_nil))) S.nd)
      (ss_cons ((by first | exact sx_setLc (own := [("p", 4)]) (i := 6) S.nd (si_range1 T.b_range (mv 5)) (blkOk_by (N := ["self", "starts", "firsts", "steps", "p", "many", "rows", "q", "state"]) (sc := defScope (inner (top 14) 3)) (by decide +kernel)) (tg_name 4) (fun _ _ _ _ _ => pg_name (i := 4) S.nd rfl (by first | exact Or.inl rfl | exact Or.inr rfl)) (fun _ _ _ _ _ => st_nil) (fun _ _ _ _ _ => se_callTy call_tupF sn_tuple (by rfl) T.b_tuple (by decide +kernel) (sa_cons (se_lc (own := [("q", 7)]) S.nd (si_range1 T.b_range (mv 5)) (blkOk_by (by kernel_rfl)) (tg_name 7) (fun _ _ _ _ _ => pg_name (i := 7) S.nd rfl (by first | exact Or.inl rfl | exact Or.inr rfl)) (fun _ _ _ _ _ => st_nil) (fun _ _ _ _ _ => se_aix hu (mv 3) (se_tup (sa_cons (mv 4) (sa_cons (mv 7) (sa_nil)))) (fun _ _ => rfl))) (sa_nil))) | exact sx_set (i := 6) (se_lc (own := [("p", 4)]) S.nd (si_range1 T.b_range (mv 5)) (blkOk_by (N := ["self", "starts", "firsts", "steps", "p", "many", "rows", "q", "state"]) (sc := defScope (inner (top 14) 3)) (by decide +kernel)) (tg_name 4) (fun _ _ _ _ _ => pg_name (i := 4) S.nd rfl (by first | exact Or.inl rfl | exact Or.inr rfl)) (fun _ _ _ _ _ => st_nil) (fun _ _ _ _ _ => se_callTy call_tupF sn_tuple (by rfl) T.b_tuple (by decide +kernel) (sa_cons (se_lc (own := [("q", 7)]) S.nd (si_range1 T.b_range (mv 5)) (blkOk_by (by kernel_rfl)) (tg_name 7) (fun _ _ _ _ _ => pg_name (i := 7) S.nd rfl (by first | exact Or.inl rfl | exact Or.inr rfl)) (fun _ _ _ _ _ => st_nil) (fun _ _ _ _ _ => se_aix hu (mv 3) (se_tup (sa_cons (mv 4) (sa_cons (mv 7) (sa_nil)))) (fun _ _ => rfl))) (sa_nil)))) S.nd))
      (ss_one (sx_ret (se_tup (sa_cons (mv 2) (sa_cons (se_callTy call_tupF sn_tuple (by rfl) T.b_tuple (by decide +kernel) (sa_cons (mv 6) (sa_nil))) (sa_nil)))))))))))
theorem sc_start_of : FnScope ["machine", "name"] ["machine", "name"] (defScope (top 16)) := ⟨rfl, rfl, rfl, by decide +kernel, rfl, by decide +kernel, by decide +kernel⟩
theorem sim_start_of (T : Txt K mg) (d : Df K mg "start_of" (top 16) ["machine", "name"]) : Cal P w K mg base "start_of" 1 (m_start_of_78275) := by
  exact cal_mk (k := 0) d sc_start_of fun f cdv A outer s H E hr => by
   have tk : Takes (cxOf (L2.CX P w) P w K mg base ["machine", "name"] "start_of" (defScope (top 16)) f cdv A outer s H E) (fun c d _ H' => E c d H') := takes_of rfl rfl rfl rfl
   have hu : (A.deeper (PyProof.Rows.envOfC "start_of" (defScope (top 16)) s.heap.objs.size f cdv)).units + 65 < cLine := by have := hr.un; omega
   have S := sc_start_of
   exact ss_cons (sx_if (st_cmp (op_inA hu) s2_in (mv 1) (se_ix ix_seq s2_ix (mv 0) (se_int) (fun _ _ => rfl)) rfl)
      (ss_one (sx_ret (se_ix ix_seq s2_ix (se_ix ix_seq s2_ix (mv 0) (se_int) (fun _ _ => rfl)) (se_tindex (se_ix ix_seq s2_ix (mv 0) (se_int) (fun _ _ => rfl)) (mv 1)) (fun _ _ => rfl))))
      (ss_nil))
      (ss_one (sx_ret (se_ix ix_seq s2_ix (se_ix ix_seq s2_ix (mv 0) (se_int) (fun _ _ => rfl)) (se_un un_neg s1_neg (se_int)) (fun _ _ => rfl))))
theorem sc_pairs_of : FnScope ["one", "other", "grower", "names", "starts", "firsts", "steps", "name"] ["one", "other"] (defScope (top 18)) := ⟨rfl, rfl, rfl, by decide +kernel, rfl, by decide +kernel, by decide +kernel⟩
theorem sim_pairs_of (T : Txt K mg) (d : Df K mg "pairs_of" (top 18) ["one", "other"]) (c_PairGrower___init__ : MkOf P w K mg base "PairGrower" 2 (m_PairGrower___init___06085)) (c_all_names : Cal P w K mg base "all_names" 1 (m_all_names_5befd)) (c_start_of : Cal P w K mg base "start_of" 1 (m_start_of_78275)) (c_PairGrower_tables : MtOf P w K mg base "PairGrower" "tables" 2 (m_PairGrower_tables_dba21)) : Cal P w K mg base "pairs_of" 4 (m_pairs_of_cf4b8) := by
  exact cal_mk (k := 3) d sc_pairs_of fun f cdv A outer s H E hr => by
   have tk : Takes (cxOf (L2.CX P w) P w K mg base ["one", "other", "grower", "names", "starts", "firsts", "steps", "name"] "pairs_of" (defScope (top 18)) f cdv A outer s H E) (fun c d _ H' => E c d H') := takes_of rfl rfl rfl rfl
   have hu : (A.deeper (PyProof.Rows.envOfC "pairs_of" (defScope (top 18)) s.heap.objs.size f cdv)).units + 65 < cLine := by have := hr.un; omega
   have S := sc_pairs_of
   exact ss_cons (sx_set (i := 2) (se_new c_PairGrower___init__ (hr.mono (by omega)) tk (sa_cons (mv 0) (sa_cons (mv 1) (sa_nil)))) S.nd)
      (ss_cons (sx_set (i := 3) (se_callC c_all_names (hr.mono (by omega)) tk (sa_cons (se_ix ix_seq s2_ix (mv 0) (se_int) (fun _ _ => rfl)) (sa_cons (se_ix ix_seq s2_ix (mv 1) (se_int) (fun _ _ => rfl)) (sa_nil)))) S.nd)
      (ss_cons ((by first | exact sx_setLc (own := [("name", 7)]) (i := 4) S.nd (si_iter (mv 3)) (blkOk_by (N := ["one", "other", "grower", "names", "starts", "firsts", "steps", "name"]) (sc := defScope (top 18)) (by decide +kernel)) (tg_name 7) (fun _ _ _ _ _ => pg_name (i := 7) S.nd rfl (by first | exact Or.inl rfl | exact Or.inr rfl)) (fun _ _ _ _ _ => st_nil) (fun _ _ _ _ _ => se_tup (sa_cons (se_callC c_start_of (hr.mono (by omega)) takes0 (sa_cons (mv 0) (sa_cons (mv 7) (sa_nil)))) (sa_cons (se_callC c_start_of (hr.mono (by omega)) takes0 (sa_cons (mv 1) (sa_cons (mv 7) (sa_nil)))) (sa_nil)))) | exact sx_set (i := 4) (se_lc (own := [("name", 7)]) S.nd (si_iter (mv 3)) (blkOk_by (N := ["one", "other", "grower", "names", "starts", "firsts", "steps", "name"]) (sc := defScope (top 18)) (by decide +kernel)) (tg_name 7) (fun _ _ _ _ _ => pg_name (i := 7) S.nd rfl (by first | exact Or.inl rfl | exact Or.inr rfl)) (fun _ _ _ _ _ => st_nil) (fun _ _ _ _ _ => se_tup (sa_cons (se_callC c_start_of (hr.mono (by omega)) takes0 (sa_cons (mv 0) (sa_cons (mv 7) (sa_nil)))) (sa_cons (se_callC c_start_of (hr.mono (by omega)) takes0 (sa_cons (mv 1) (sa_cons (mv 7) (sa_nil)))) (sa_nil))))) S.nd))
      (ss_cons (sx_expr (se_bm PySem.F.plainAttrs_list PySem.F.slot_list_append PySem.F.type_list_append mt_append sty_list sm_append (mv 4) (sa_cons (se_tup (sa_cons (se_ix ix_seq s2_ix (se_ix ix_seq s2_ix (mv 0) (se_int) (fun _ _ => rfl)) (se_un un_neg s1_neg (se_int)) (fun _ _ => rfl)) (sa_cons (se_ix ix_seq s2_ix (se_ix ix_seq s2_ix (mv 1) (se_int) (fun _ _ => rfl)) (se_un un_neg s1_neg (se_int)) (fun _ _ => rfl)) (sa_nil)))) (sa_nil))))
      (ss_cons (sx_setT (se_meth (k := 3) (mt_cons (MtOf.mono c_PairGrower_tables (by omega)) (mt_nil)) (hr.mono (by omega)) tk (mv 2) (sa_cons (mv 4) (sa_nil))) (sg_tup (sgs_cons (sg_name (i := 5) S.nd) (sgs_cons (sg_name (i := 6) S.nd) (sgs_nil))) (many_cons (many_cons many_nil))))
      (ss_one (sx_ret (se_tup (sa_cons (se_callTy call_tupF sn_tuple (by rfl) T.b_tuple (by decide +kernel) (sa_cons (mv 3) (sa_nil))) (sa_cons (mv 5) (sa_cons (mv 6) (sa_cons (se_callTy call_tupF sn_tuple (by rfl) T.b_tuple (by decide +kernel) (sa_cons (se_fld T.ct_states (mv 2)) (sa_nil))) (sa_nil))))))))))))
theorem sc_lowered : FnScope ["machine", "found", "less", "p", "q", "size", "state"] ["machine", "found"] (defScope (top 24)) := ⟨rfl, rfl, rfl, by decide +kernel, rfl, by decide +kernel, by decide +kernel⟩
theorem sim_lowered (T : Txt K mg) (d : Df K mg "lowered" (top 24) ["machine", "found"]) : Cal P w K mg base "lowered" 1 (m_lowered_0b90e) := by
  exact cal_mk (k := 0) d sc_lowered fun f cdv A outer s H E hr => by
   have tk : Takes (cxOf (L2.CX P w) P w K mg base ["machine", "found", "less", "p", "q", "size", "state"] "lowered" (defScope (top 24)) f cdv A outer s H E) (fun c d _ H' => E c d H') := takes_of rfl rfl rfl rfl
   have hu : (A.deeper (PyProof.Rows.envOfC "lowered" (defScope (top 24)) s.heap.objs.size f cdv)).units + 65 < cLine := by have := hr.un; omega
   have S := sc_lowered
   exact ss_cons (sx_set (i := 2) (se_bl) S.nd)
      (ss_cons (sx_for (passes_of rfl) (si_range1 T.b_range (se_callB call_len sn_len (by rfl) T.b_len (by decide +kernel) (sa_cons (mv 1) (sa_nil)))) (sg_name (i := 3) S.nd)
      (ss_one (sx_for (passes_of rfl) (si_range1 T.b_range (se_callB call_len sn_len (by rfl) T.b_len (by decide +kernel) (sa_cons (mv 1) (sa_nil)))) (sg_name (i := 4) S.nd)
      (ss_one (sx_if ((sw_and (st_cmp op_notN s2_notN (se_ix ix_seq s2_ix (mv 1) (mv 3) (fun _ _ => rfl)) (se_non) (nomark _)) (sw_and1 (st_cmp op_notN s2_notN (se_ix ix_seq s2_ix (mv 1) (mv 4) (fun _ _ => rfl)) (se_non) (nomark _)))).pt)
      (ss_cons (sx_set (i := 5) (se_bin op_addA s2_add (se_ix ix_seq s2_ix (mv 1) (mv 3) (fun _ _ => rfl)) (se_ix ix_seq s2_ix (mv 1) (mv 4) (fun _ _ => rfl))) S.nd)
      (ss_cons (sx_set (i := 6) (se_ix ix_seq s2_ix (se_ix ix_seq s2_ix (se_ix ix_seq s2_ix (mv 0) (se_int) (fun _ _ => rfl)) (mv 3) (fun _ _ => rfl)) (mv 4) (fun _ _ => rfl)) S.nd)
      (ss_one (sx_if ((sw_or (st_cmp op_isN s2_isN (se_ix ix_seq s2_ix (mv 1) (mv 6) (fun _ _ => rfl)) (se_non) (nomark _)) (sw_or1 (st_cmp op_lt s2_lt (mv 5) (se_ix ix_seq s2_ix (mv 1) (mv 6) (fun _ _ => rfl)) (nomark _)))).pt)
      (ss_cons (sx_setIx (mv 1) (mv 6) (mv 5))
      (ss_one (sx_set (i := 2) (se_bl) S.nd)))
      (ss_nil)))))
      (ss_nil))))))
      (ss_one (sx_ret (mv 2))))
theorem sc_sizes : FnScope ["machine", "found", "state", "mark"] ["machine"] (defScope (top 25)) := ⟨rfl, rfl, rfl, by decide +kernel, rfl, by decide +kernel, by decide +kernel⟩
theorem sim_sizes (T : Txt K mg) (d : Df K mg "sizes" (top 25) ["machine"]) (c_lowered : Cal P w K mg base "lowered" 1 (m_lowered_0b90e)) : Cal P w K mg base "sizes" 2 (m_sizes_9dfee) := by
  exact cal_mk (k := 1) d sc_sizes fun f cdv A outer s H E hr => by
   have tk : Takes (cxOf (L2.CX P w) P w K mg base ["machine", "found", "state", "mark"] "sizes" (defScope (top 25)) f cdv A outer s H E) (fun c d _ H' => E c d H') := takes_of rfl rfl rfl rfl
   have hu : (A.deeper (PyProof.Rows.envOfC "sizes" (defScope (top 25)) s.heap.objs.size f cdv)).units + 65 < cLine := by have := hr.un; omega
   have S := sc_sizes
   exact ss_cons ((by first | exact sx_setLc (own := [("mark", 3)]) (i := 1) S.nd (si_iter (se_ix ix_seq s2_ix (mv 0) (se_int) (fun _ _ => rfl))) (blkOk_by (N := ["machine", "found", "state", "mark"]) (sc := defScope (top 25)) (by decide +kernel)) (tg_name 3) (fun _ _ _ _ _ => pg_name (i := 3) S.nd rfl (by first | exact Or.inl rfl | exact Or.inr rfl)) (fun _ _ _ _ _ => st_nil) (fun _ _ _ _ _ => se_non) | exact sx_set (i := 1) (se_lc (own := [("mark", 3)]) S.nd (si_iter (se_ix ix_seq s2_ix (mv 0) (se_int) (fun _ _ => rfl))) (blkOk_by (N := ["machine", "found", "state", "mark"]) (sc := defScope (top 25)) (by decide +kernel)) (tg_name 3) (fun _ _ _ _ _ => pg_name (i := 3) S.nd rfl (by first | exact Or.inl rfl | exact Or.inr rfl)) (fun _ _ _ _ _ => st_nil) (fun _ _ _ _ _ => se_non)) S.nd))
      (ss_cons (sx_for (passes_of rfl) (si_iter (se_ix ix_seq s2_ix (mv 0) (se_int) (fun _ _ => rfl))) (sg_name (i := 2) S.nd)
      (ss_one (sx_setIx (mv 1) (mv 2) (se_int))))
      (ss_cons (sx_while 1000000000000000000000000 (passes_of rfl) (st_val (se_callC c_lowered (hr.mono (by omega)) tk (sa_cons (mv 0) (sa_cons (mv 1) (sa_nil)))))
      (ss_one (sx_pass)))
      (ss_one (sx_ret (se_callTy call_tupF sn_tuple (by rfl) T.b_tuple (by decide +kernel) (sa_cons (mv 1) (sa_nil)))))))
theorem sc_bit_of : FnScope ["machine", "form"] ["machine", "form"] (defScope (top 22)) := ⟨rfl, rfl, rfl, by decide +kernel, rfl, by decide +kernel, by decide +kernel⟩
theorem sim_bit_of (T : Txt K mg) (d : Df K mg "bit_of" (top 22) ["machine", "form"]) (xi_NoForm : XI P w K mg base "NoForm" "form") : Cal P w K mg base "bit_of" 3 (m_bit_of_97f34) := by
  exact cal_mk (k := 2) d sc_bit_of fun f cdv A outer s H E hr => by
   have tk : Takes (cxOf (L2.CX P w) P w K mg base ["machine", "form"] "bit_of" (defScope (top 22)) f cdv A outer s H E) (fun c d _ H' => E c d H') := takes_of rfl rfl rfl rfl
   have hu : (A.deeper (PyProof.Rows.envOfC "bit_of" (defScope (top 22)) s.heap.objs.size f cdv)).units + 65 < cLine := by have := hr.un; omega
   have S := sc_bit_of
   exact ss_cons (sx_if (st_cmp (op_notInA hu) s2_notIn (mv 1) (se_ix ix_seq s2_ix (mv 0) (se_int) (fun _ _ => rfl)) rfl)
      (ss_one (sx_raise (f := "form") xi_NoForm (hr.mono (by omega)) tk (mv 1)))
      (ss_nil))
      (ss_one (sx_ret (se_bin op_shl s2_shl (se_int) (se_tindex (se_ix ix_seq s2_ix (mv 0) (se_int) (fun _ _ => rfl)) (mv 1)))))
theorem sc_other_name : FnScope ["names", "first", "second"] ["names"] (defScope (top 26)) := ⟨rfl, rfl, rfl, by decide +kernel, rfl, by decide +kernel, by decide +kernel⟩
theorem sim_other_name (T : Txt K mg) (d : Df K mg "other_name" (top 26) ["names"]) : Cal P w K mg base "other_name" 1 (m_other_name_452b4) := by
  obtain ⟨t_LETTERS, g_LETTERS⟩ := T.g_LETTERS
  exact cal_mk (k := 0) d sc_other_name fun f cdv A outer s H E hr => by
   have tk : Takes (cxOf (L2.CX P w) P w K mg base ["names", "first", "second"] "other_name" (defScope (top 26)) f cdv A outer s H E) (fun c d _ H' => E c d H') := takes_of rfl rfl rfl rfl
   have hu : (A.deeper (PyProof.Rows.envOfC "other_name" (defScope (top 26)) s.heap.objs.size f cdv)).units + 65 < cLine := by have := hr.un; omega
   have S := sc_other_name
   exact ss_cons (sx_for (passes_of rfl) (si_iter (se_globS (by rfl) g_LETTERS)) (sg_name (i := 1) S.nd)
      (ss_one (sx_for (passes_of rfl) (si_iter (se_globS (by rfl) g_LETTERS)) (sg_name (i := 2) S.nd)
      (ss_one (sx_if (st_cmp (op_notInA hu) s2_notIn (se_bin op_addA s2_add (mv 1) (mv 2)) (mv 0) rfl)
      (ss_one (sx_ret (se_bin op_addA s2_add (mv 1) (mv 2))))
      (ss_nil))))))
      (ss_one (sx_ret (se_str)))
theorem sc_source_of : FnScope ["machine", "told", "state", "p", "k", "q"] ["machine", "told", "state"] (defScope (top 27)) := ⟨rfl, rfl, rfl, by decide +kernel, rfl, by decide +kernel, by decide +kernel⟩
theorem sim_source_of (T : Txt K mg) (d : Df K mg "source_of" (top 27) ["machine", "told", "state"]) (c_other_name : Cal P w K mg base "other_name" 1 (m_other_name_452b4)) : Cal P w K mg base "source_of" 2 (m_source_of_7e334) := by
  exact cal_mk (k := 1) d sc_source_of fun f cdv A outer s H E hr => by
   have tk : Takes (cxOf (L2.CX P w) P w K mg base ["machine", "told", "state", "p", "k", "q"] "source_of" (defScope (top 27)) f cdv A outer s H E) (fun c d _ H' => E c d H') := takes_of rfl rfl rfl rfl
   have hu : (A.deeper (PyProof.Rows.envOfC "source_of" (defScope (top 27)) s.heap.objs.size f cdv)).units + 65 < cLine := by have := hr.un; omega
   have S := sc_source_of
   exact ss_cons (sx_if (st_cmp (op_inA hu) s2_in (mv 2) (se_ix ix_seq s2_ix (mv 0) (se_int) (fun _ _ => rfl)) rfl)
      (ss_cons (sx_set (i := 4) (se_tindexI (se_ix ix_seq s2_ix (mv 0) (se_int) (fun _ _ => rfl)) (mv 2)) S.nd)
      (ss_cons (sx_if (st_cmp op_lt s2_lt (mv 4) (se_callB call_len sn_len (by rfl) T.b_len (by decide +kernel) (sa_cons (se_ix ix_seq s2_ix (mv 0) (se_int) (fun _ _ => rfl)) (sa_nil))) (nomark _))
      (ss_one (sx_ret (se_tup (sa_cons (se_ix ix_seq s2_ix (se_ix ix_seq s2_ix (mv 0) (se_int) (fun _ _ => rfl)) (mv 4) (fun _ _ => rfl)) (sa_nil)))))
      (ss_nil))
      (ss_one (sx_ret (se_tup (sa_cons (se_callC c_other_name (hr.mono (by omega)) tk (sa_cons (se_ix ix_seq s2_ix (mv 0) (se_int) (fun _ _ => rfl)) (sa_nil))) (sa_nil)))))))
      (ss_nil))
      (ss_cons (sx_for (passes_of rfl) (si_range1 T.b_range (se_callB call_len sn_len (by rfl) T.b_len (by decide +kernel) (sa_cons (mv 1) (sa_nil)))) (sg_name (i := 3) S.nd)
      (ss_one (sx_for (passes_of rfl) (si_range1 T.b_range (se_callB call_len sn_len (by rfl) T.b_len (by decide +kernel) (sa_cons (mv 1) (sa_nil)))) (sg_name (i := 5) S.nd)
      (ss_one (sx_if ((sw_and (st_cmp (op_eqA hu) s2_eq (se_ix ix_seq s2_ix (se_ix ix_seq s2_ix (se_ix ix_seq s2_ix (mv 0) (se_int) (fun _ _ => rfl)) (mv 3) (fun _ _ => rfl)) (mv 5) (fun _ _ => rfl)) (mv 2) (nomark _)) (sw_and (st_cmp op_notN s2_notN (se_ix ix_seq s2_ix (mv 1) (mv 3) (fun _ _ => rfl)) (se_non) (nomark _)) (sw_and1 (st_cmp op_notN s2_notN (se_ix ix_seq s2_ix (mv 1) (mv 5) (fun _ _ => rfl)) (se_non) (nomark _))))).pt)
      (ss_one (sx_if (st_cmp (op_eqA hu) s2_eq (se_bin op_addA s2_add (se_ix ix_seq s2_ix (mv 1) (mv 3) (fun _ _ => rfl)) (se_ix ix_seq s2_ix (mv 1) (mv 5) (fun _ _ => rfl))) (se_ix ix_seq s2_ix (mv 1) (mv 2) (fun _ _ => rfl)) (nomark _))
      (ss_one (sx_ret (se_tup (sa_cons (mv 3) (sa_cons (mv 5) (sa_nil))))))
      (ss_nil)))
      (ss_nil))))))
      (ss_one (sx_ret (se_non))))
theorem sc_sources_of : FnScope ["machine", "told", "state", "found", "waiting"] ["machine", "told", "state"] (defScope (top 28)) := ⟨rfl, rfl, rfl, by decide +kernel, rfl, by decide +kernel, by decide +kernel⟩
theorem sim_sources_of (T : Txt K mg) (d : Df K mg "sources_of" (top 28) ["machine", "told", "state"]) (c_source_of : Cal P w K mg base "source_of" 2 (m_source_of_7e334)) : Cal P w K mg base "sources_of" 3 (m_sources_of_a14e9) := by
  exact cal_mk (k := 2) d sc_sources_of fun f cdv A outer s H E hr => by
   have tk : Takes (cxOf (L2.CX P w) P w K mg base ["machine", "told", "state", "found", "waiting"] "sources_of" (defScope (top 28)) f cdv A outer s H E) (fun c d _ H' => E c d H') := takes_of rfl rfl rfl rfl
   have hu : (A.deeper (PyProof.Rows.envOfC "sources_of" (defScope (top 28)) s.heap.objs.size f cdv)).units + 65 < cLine := by have := hr.un; omega
   have S := sc_sources_of
   exact ss_cons (sx_set (i := 3) (se_dict0) S.nd)
      (ss_cons (sx_set (i := 4) (se_lst (sa_cons (mv 2) (sa_nil))) S.nd)
      (ss_cons (sx_while 1000 (passes_of rfl) (st_cmp (op_neA hu) s2_ne (mv 4) (se_lst (sa_nil)) (nomark _))
      (ss_cons (sx_set (i := 2) (se_bm0 PySem.F.plainAttrs_list PySem.F.slot_list_pop PySem.F.type_list_pop mt_pop sty_list sm_pop (mv 4)) S.nd)
      (ss_one (sx_if (st_cmp (op_aNotIn hu) s2_aNotIn (mv 2) (mv 3) rfl)
      (ss_cons (sx_aset hu (mv 3) (mv 2) (se_callC c_source_of (hr.mono (by omega)) tk (sa_cons (mv 0) (sa_cons (mv 1) (sa_cons (mv 2) (sa_nil))))))
      (ss_one (sx_if (st_cmp (op_eqA hu) s2_eq (se_callB call_len sn_len (by rfl) T.b_len (by decide +kernel) (sa_cons (se_aix hu (mv 3) (mv 2) (fun _ _ => rfl)) (sa_nil))) (se_int) (nomark _))
      (ss_one (sx_expr (se_bm PySem.F.plainAttrs_list PySem.F.slot_list_extend PySem.F.type_list_extend mt_extTu sty_list sm_extTu (mv 4) (sa_cons (se_aix hu (mv 3) (mv 2) (fun _ _ => rfl)) (sa_nil)))))
      (ss_nil))))
      (ss_nil)))))
      (ss_one (sx_ret (mv 3)))))
theorem sc_makings_of : FnScope ["machine", "state", "told", "sources", "numbers", "made", "size", "part", "one", "other"] ["machine", "state"] (defScope (top 29)) := ⟨rfl, rfl, rfl, by decide +kernel, rfl, by decide +kernel, by decide +kernel⟩
theorem sim_makings_of (T : Txt K mg) (d : Df K mg "makings_of" (top 29) ["machine", "state"]) (c_sizes : Cal P w K mg base "sizes" 2 (m_sizes_9dfee)) (c_sources_of : Cal P w K mg base "sources_of" 3 (m_sources_of_a14e9)) : Cal P w K mg base "makings_of" 4 (m_makings_of_8c00c) := by
  exact cal_mk (k := 3) d sc_makings_of fun f cdv A outer s H E hr => by
   have tk : Takes (cxOf (L2.CX P w) P w K mg base ["machine", "state", "told", "sources", "numbers", "made", "size", "part", "one", "other"] "makings_of" (defScope (top 29)) f cdv A outer s H E) (fun c d _ H' => E c d H') := takes_of rfl rfl rfl rfl
   have hu : (A.deeper (PyProof.Rows.envOfC "makings_of" (defScope (top 29)) s.heap.objs.size f cdv)).units + 65 < cLine := by have := hr.un; omega
   have S := sc_makings_of
   exact ss_cons (sx_set (i := 2) (se_callC c_sizes (hr.mono (by omega)) tk (sa_cons (mv 0) (sa_nil))) S.nd)
      (ss_cons (sx_if (st_cmp op_isN s2_isN (se_ix ix_seq s2_ix (mv 2) (mv 1) (fun _ _ => rfl)) (se_non) (nomark _))
      (ss_one (sx_ret (se_non)))
      (ss_nil))
      (ss_cons (sx_set (i := 3) (se_callC c_sources_of (hr.mono (by omega)) tk (sa_cons (mv 0) (sa_cons (mv 2) (sa_cons (mv 1) (sa_nil))))) S.nd)
      (ss_cons (sx_set (i := 4) (se_dict0) S.nd)
      (ss_cons (sx_set (i := 5) (se_lst (sa_nil)) S.nd)
      (ss_cons (sx_for (passes_of rfl) (si_iter (se_callB (cr_sortP hu) sn_sortP (by rfl) T.b_sorted (by decide +kernel) (sa_cons (se_lock (k := 3) (se_lc (own := [("part", 7)]) S.nd (si_keysF (mv 3)) (blkOk_by (N := ["machine", "state", "told", "sources", "numbers", "made", "size", "part", "one", "other"]) (sc := defScope (top 29)) (by decide +kernel)) (tg_name 7) (fun _ _ _ _ _ => pg_name (i := 7) S.nd rfl (by first | exact Or.inl rfl | exact Or.inr rfl)) (fun _ _ _ _ _ => st_nil) (fun _ _ _ _ _ => se_tup (sa_cons (se_ix ix_seq s2_ix (mv 2) (mv 7) (fun _ _ => rfl)) (sa_cons (mv 7) (sa_nil)))))) (sa_nil)))) (sg_tup (sgs_cons (sg_name (i := 6) S.nd) (sgs_cons (sg_name (i := 7) S.nd) (sgs_nil))) (many_cons (many_cons many_nil)))
      (ss_cons (sx_aset hu (mv 4) (mv 7) (se_callB call_len sn_len (by rfl) T.b_len (by decide +kernel) (sa_cons (mv 5) (sa_nil))))
      (ss_one (sx_if (st_cmp (op_eqA hu) s2_eq (se_callB call_len sn_len (by rfl) T.b_len (by decide +kernel) (sa_cons (se_aix hu (mv 3) (mv 7) (fun _ _ => rfl)) (sa_nil))) (se_int) (nomark _))
      (ss_one (sx_expr (se_bm PySem.F.plainAttrs_list PySem.F.slot_list_append PySem.F.type_list_append mt_append sty_list sm_append (mv 5) (sa_cons (se_aix hu (mv 3) (mv 7) (fun _ _ => rfl)) (sa_nil)))))
      (ss_cons (sx_setT (se_aix hu (mv 3) (mv 7) (fun _ _ => rfl)) (sg_tup (sgs_cons (sg_name (i := 8) S.nd) (sgs_cons (sg_name (i := 9) S.nd) (sgs_nil))) (many_cons (many_cons many_nil))))
      (ss_one (sx_expr (se_bm PySem.F.plainAttrs_list PySem.F.slot_list_append PySem.F.type_list_append mt_append sty_list sm_append (mv 5) (sa_cons (se_tup (sa_cons (se_aix hu (mv 4) (mv 8) (fun _ _ => rfl)) (sa_cons (se_aix hu (mv 4) (mv 9) (fun _ _ => rfl)) (sa_nil)))) (sa_nil))))))))))
      (ss_one (sx_ret (se_callTy call_tupF sn_tuple (by rfl) T.b_tuple (by decide +kernel) (sa_cons (mv 5) (sa_nil))))))))))
theorem sc_has_bit : FnScope ["machine", "state", "bit"] ["machine", "state", "bit"] (defScope (top 21)) := ⟨rfl, rfl, rfl, by decide +kernel, rfl, by decide +kernel, by decide +kernel⟩
theorem sim_has_bit (T : Txt K mg) (d : Df K mg "has_bit" (top 21) ["machine", "state", "bit"]) : Cal P w K mg base "has_bit" 1 (m_has_bit_05807) := by
  exact cal_mk (k := 0) d sc_has_bit fun f cdv A outer s H E hr => by
   have tk : Takes (cxOf (L2.CX P w) P w K mg base ["machine", "state", "bit"] "has_bit" (defScope (top 21)) f cdv A outer s H E) (fun c d _ H' => E c d H') := takes_of rfl rfl rfl rfl
   have hu : (A.deeper (PyProof.Rows.envOfC "has_bit" (defScope (top 21)) s.heap.objs.size f cdv)).units + 65 < cLine := by have := hr.un; omega
   have S := sc_has_bit
   exact ss_one (sx_ret (se_cmp (op_neA hu) s2_ne (se_bin op_and s2_band (se_ix ix_seq s2_ix (se_ix ix_seq s2_ix (mv 0) (se_int) (fun _ _ => rfl)) (mv 1) (fun _ _ => rfl)) (mv 2)) (se_int) (nomark _)))
theorem sc_least : FnScope ["machine", "form", "bit", "told", "some", "state"] ["machine", "form"] (defScope (top 30)) := ⟨rfl, rfl, rfl, by decide +kernel, rfl, by decide +kernel, by decide +kernel⟩
theorem sim_least (T : Txt K mg) (d : Df K mg "least" (top 30) ["machine", "form"]) (c_bit_of : Cal P w K mg base "bit_of" 3 (m_bit_of_97f34)) (c_sizes : Cal P w K mg base "sizes" 2 (m_sizes_9dfee)) (c_has_bit : Cal P w K mg base "has_bit" 1 (m_has_bit_05807)) (c_makings_of : Cal P w K mg base "makings_of" 4 (m_makings_of_8c00c)) : Cal P w K mg base "least" 5 (m_least_75c60) := by
  exact cal_mk (k := 4) d sc_least fun f cdv A outer s H E hr => by
   have tk : Takes (cxOf (L2.CX P w) P w K mg base ["machine", "form", "bit", "told", "some", "state"] "least" (defScope (top 30)) f cdv A outer s H E) (fun c d _ H' => E c d H') := takes_of rfl rfl rfl rfl
   have hu : (A.deeper (PyProof.Rows.envOfC "least" (defScope (top 30)) s.heap.objs.size f cdv)).units + 65 < cLine := by have := hr.un; omega
   have S := sc_least
   exact ss_cons (sx_set (i := 2) (se_callC c_bit_of (hr.mono (by omega)) tk (sa_cons (mv 0) (sa_cons (mv 1) (sa_nil)))) S.nd)
      (ss_cons (sx_set (i := 3) (se_callC c_sizes (hr.mono (by omega)) tk (sa_cons (mv 0) (sa_nil))) S.nd)
      (ss_cons (sx_set (i := 4) (se_lst (sa_nil)) S.nd)
      (ss_cons (sx_for (passes_of rfl) (si_range1 T.b_range (se_callB call_len sn_len (by rfl) T.b_len (by decide +kernel) (sa_cons (mv 3) (sa_nil)))) (sg_name (i := 5) S.nd)
      (ss_one (sx_if ((sw_and (st_cmp op_notN s2_notN (se_ix ix_seq s2_ix (mv 3) (mv 5) (fun _ _ => rfl)) (se_non) (nomark _)) (sw_and1 (st_val (se_callC c_has_bit (hr.mono (by omega)) tk (sa_cons (mv 0) (sa_cons (mv 5) (sa_cons (mv 2) (sa_nil)))))))).pt)
      (ss_one (sx_expr (se_bm PySem.F.plainAttrs_list PySem.F.slot_list_append PySem.F.type_list_append mt_append sty_list sm_append (mv 4) (sa_cons (se_tup (sa_cons (se_ix ix_seq s2_ix (mv 3) (mv 5) (fun _ _ => rfl)) (sa_cons (mv 5) (sa_nil)))) (sa_nil)))))
      (ss_nil))))
      (ss_cons (sx_if (st_cmp (op_eqA hu) s2_eq (mv 4) (se_lst (sa_nil)) (nomark _))
      (ss_one (sx_ret (se_non)))
      (ss_nil))
      (ss_one (sx_ret (se_callC c_makings_of (hr.mono (by omega)) tk (sa_cons (mv 0) (sa_cons (se_ix ix_seq s2_ix (se_callB (cr_minA rfl hu) sn_minA (by rfl) T.b_min (by decide +kernel) (sa_cons (mv 4) (sa_nil))) (se_int) (fun _ _ => rfl)) (sa_nil))))))))))
theorem sc_has_form : FnScope ["machine", "state", "form"] ["machine", "state", "form"] (defScope (top 32)) := ⟨rfl, rfl, rfl, by decide +kernel, rfl, by decide +kernel, by decide +kernel⟩
theorem sim_has_form (T : Txt K mg) (d : Df K mg "has_form" (top 32) ["machine", "state", "form"]) : Cal P w K mg base "has_form" 1 (m_has_form_255e2) := by
  exact cal_mk (k := 0) d sc_has_form fun f cdv A outer s H E hr => by
   have tk : Takes (cxOf (L2.CX P w) P w K mg base ["machine", "state", "form"] "has_form" (defScope (top 32)) f cdv A outer s H E) (fun c d _ H' => E c d H') := takes_of rfl rfl rfl rfl
   have hu : (A.deeper (PyProof.Rows.envOfC "has_form" (defScope (top 32)) s.heap.objs.size f cdv)).units + 65 < cLine := by have := hr.un; omega
   have S := sc_has_form
   exact ss_one (sx_ret (se_cmp (op_eqA hu) s2_eq (se_bin op_mod s2_mod (se_bin op_shr s2_shr (se_ix ix_seq s2_ix (se_ix ix_seq s2_ix (mv 0) (se_int) (fun _ _ => rfl)) (mv 1) (fun _ _ => rfl)) (se_tindex (se_ix ix_seq s2_ix (mv 0) (se_int) (fun _ _ => rfl)) (mv 2))) (se_int)) (se_int) (nomark _)))
theorem sc_each_is : FnScope ["one", "form", "other", "goal", "marks", "machine", "costs", "paper", "names", "starts", "steps", "pairs", "p", "q", "k"] ["one", "form", "other", "goal"] (defScope (top 33)) := ⟨rfl, rfl, rfl, by decide +kernel, rfl, by decide +kernel, by decide +kernel⟩
theorem sim_each_is (T : Txt K mg) (d : Df K mg "each_is" (top 33) ["one", "form", "other", "goal"]) (c_pairs_of : Cal P w K mg base "pairs_of" 4 (m_pairs_of_cf4b8)) (c_has_form : Cal P w K mg base "has_form" 1 (m_has_form_255e2)) (c_sizes : Cal P w K mg base "sizes" 2 (m_sizes_9dfee)) (c_least : Cal P w K mg base "least" 5 (m_least_75c60)) (xi_NoForm : XI P w K mg base "NoForm" "form") : Cal P w K mg base "each_is" 6 (m_each_is_49549) := by
  exact cal_mk (k := 5) d sc_each_is fun f cdv A outer s H E hr => by
   have tk : Takes (cxOf (L2.CX P w) P w K mg base ["one", "form", "other", "goal", "marks", "machine", "costs", "paper", "names", "starts", "steps", "pairs", "p", "q", "k"] "each_is" (defScope (top 33)) f cdv A outer s H E) (fun c d _ H' => E c d H') := takes_of rfl rfl rfl rfl
   have hu : (A.deeper (PyProof.Rows.envOfC "each_is" (defScope (top 33)) s.heap.objs.size f cdv)).units + 65 < cLine := by have := hr.un; omega
   have S := sc_each_is
   exact ss_cons (sx_if (st_cmp (op_notInA hu) s2_notIn (mv 1) (se_ix ix_seq s2_ix (mv 0) (se_int) (fun _ _ => rfl)) rfl)
      (ss_one (sx_raise (f := "form") xi_NoForm (hr.mono (by omega)) tk (mv 1)))
      (ss_nil))
      (ss_cons (sx_if (st_cmp (op_notInA hu) s2_notIn (mv 3) (se_ix ix_seq s2_ix (mv 2) (se_int) (fun _ _ => rfl)) rfl)
      (ss_one (sx_raise (f := "form") xi_NoForm (hr.mono (by omega)) tk (mv 3)))
      (ss_nil))
      (ss_cons (sx_setT (se_callC c_pairs_of (hr.mono (by omega)) tk (sa_cons (mv 0) (sa_cons (mv 2) (sa_nil)))) (sg_tup (sgs_cons (sg_name (i := 8) S.nd) (sgs_cons (sg_name (i := 9) S.nd) (sgs_cons (sg_name (i := 10) S.nd) (sgs_cons (sg_name (i := 11) S.nd) (sgs_nil))))) (many_cons (many_cons (many_cons (many_cons many_nil))))))
      (ss_cons (sx_set (i := 4) (se_lst (sa_nil)) S.nd)
      (ss_cons (sx_for (passes_of rfl) (si_iter (mv 11)) (sg_tup (sgs_cons (sg_name (i := 12) S.nd) (sgs_cons (sg_name (i := 13) S.nd) (sgs_nil))) (many_cons (many_cons many_nil)))
      (ss_one (sx_expr (se_bm PySem.F.plainAttrs_list PySem.F.slot_list_append PySem.F.type_list_append mt_append sty_list sm_append (mv 4) (sa_cons (se_callTy call_int1 sn_int (by rfl) T.b_int (by decide +kernel) (sa_cons (se_and (se_callC c_has_form (hr.mono (by omega)) tk (sa_cons (mv 0) (sa_cons (mv 12) (sa_cons (mv 1) (sa_nil))))) (se_one (se_not (se_callC c_has_form (hr.mono (by omega)) tk (sa_cons (mv 2) (sa_cons (mv 13) (sa_cons (mv 3) (sa_nil)))))))) (sa_nil))) (sa_nil))))))
      (ss_cons (sx_set (i := 5) (se_tup (sa_cons (se_tup (sa_cons (se_str) (sa_nil))) (sa_cons (mv 8) (sa_cons (mv 9) (sa_cons (mv 10) (sa_cons (se_callTy call_tupF sn_tuple (by rfl) T.b_tuple (by decide +kernel) (sa_cons (mv 4) (sa_nil))) (sa_nil))))))) S.nd)
      (ss_cons (sx_set (i := 6) (se_callC c_sizes (hr.mono (by omega)) tk (sa_cons (mv 5) (sa_nil))) S.nd)
      (ss_cons ((by first | exact sx_setLc (own := [("k", 14)]) (i := 7) S.nd (si_range1 T.b_range (se_callB call_len sn_len (by rfl) T.b_len (by decide +kernel) (sa_cons (mv 11) (sa_nil)))) (blkOk_by (N := ["one", "form", "other", "goal", "marks", "machine", "costs", "paper", "names", "starts", "steps", "pairs", "p", "q", "k"]) (sc := defScope (top 33)) (by decide +kernel)) (tg_name 14) (fun _ _ _ _ _ => pg_name (i := 14) S.nd rfl (by first | exact Or.inl rfl | exact Or.inr rfl)) (fun _ _ _ _ _ => st_nil) (fun _ _ _ _ _ => se_bin op_addA s2_add (se_ix ix_seq s2_ix (mv 11) (mv 14) (fun _ _ => rfl)) (se_tup (sa_cons (se_ix ix_seq s2_ix (mv 6) (mv 14) (fun _ _ => rfl)) (sa_nil)))) | exact sx_set (i := 7) (se_lc (own := [("k", 14)]) S.nd (si_range1 T.b_range (se_callB call_len sn_len (by rfl) T.b_len (by decide +kernel) (sa_cons (mv 11) (sa_nil)))) (blkOk_by (N := ["one", "form", "other", "goal", "marks", "machine", "costs", "paper", "names", "starts", "steps", "pairs", "p", "q", "k"]) (sc := defScope (top 33)) (by decide +kernel)) (tg_name 14) (fun _ _ _ _ _ => pg_name (i := 14) S.nd rfl (by first | exact Or.inl rfl | exact Or.inr rfl)) (fun _ _ _ _ _ => st_nil) (fun _ _ _ _ _ => se_bin op_addA s2_add (se_ix ix_seq s2_ix (mv 11) (mv 14) (fun _ _ => rfl)) (se_tup (sa_cons (se_ix ix_seq s2_ix (mv 6) (mv 14) (fun _ _ => rfl)) (sa_nil))))) S.nd))
      (ss_one (sx_ret (se_tup (sa_cons (se_callC c_least (hr.mono (by omega)) tk (sa_cons (mv 5) (sa_cons (se_str) (sa_nil)))) (sa_cons (se_callB (cr_sortQ hu) sn_sortQ (by rfl) T.b_sorted (by decide +kernel) (sa_cons (mv 7) (sa_nil))) (sa_nil)))))))))))))
theorem sc__law_answer : FnScope ["_law_x", "_law_form", "_law_y", "_law_goal", "_law_word", "_law_field", "_law_found", "e"] ["_law_x", "_law_form", "_law_y", "_law_goal"] (defScope (top 39)) := ⟨rfl, rfl, rfl, by decide +kernel, rfl, by decide +kernel, by decide +kernel⟩
theorem sim__law_answer (T : Txt K mg) (d : Df K mg "_law_answer" (top 39) ["_law_x", "_law_form", "_law_y", "_law_goal"]) (c_each_is : Cal P w K mg base "each_is" 6 (m_each_is_49549)) : Cal P w K mg base "_law_answer" 7 (m_answer_cd828) := by
  exact cal_mk (k := 6) d sc__law_answer fun f cdv A outer s H E hr => by
   have tk : Takes (cxOf (L2.CX P w) P w K mg base ["_law_x", "_law_form", "_law_y", "_law_goal", "_law_word", "_law_field", "_law_found", "e"] "_law_answer" (defScope (top 39)) f cdv A outer s H E) (fun c d _ H' => E c d H') := takes_of rfl rfl rfl rfl
   have hu : (A.deeper (PyProof.Rows.envOfC "_law_answer" (defScope (top 39)) s.heap.objs.size f cdv)).units + 65 < cLine := by have := hr.un; omega
   have S := sc__law_answer
   exact ss_cons (sx_set (i := 4) (se_str) S.nd)
      (ss_cons (sx_set (i := 5) (se_str) S.nd)
      (ss_cons (sx_set (i := 6) (se_non) S.nd)
      (ss_cons (sx_tryH tk (fun _ _ _ tk1 => ss_one (sx_set (i := 6) (se_callC c_each_is (hr.mono (by omega)) tk1 (sa_cons (mv 0) (sa_cons (mv 1) (sa_cons (mv 2) (sa_cons (mv 3) (sa_nil)))))) S.nd)) (hs_fld (i := 7) (k := 4) (j := 5) T.ex_NoForm T.fl_form S.nd (hs_only T.ex_TooMany (fun _ _ _ => ss_one (sx_set (i := 4) (se_str) S.nd)) hs_nil)) S.nd)
      (ss_one (sx_ret (se_tup (sa_cons (mv 4) (sa_cons (mv 5) (sa_cons (mv 6) (sa_nil))))))))))
theorem sc__law_cell_at : FnScope ["_law_script", "_law_k"] ["_law_script", "_law_k"] (defScope (top 35)) := ⟨rfl, rfl, rfl, by decide +kernel, rfl, by decide +kernel, by decide +kernel⟩
theorem sim__law_cell_at (T : Txt K mg) (d : Df K mg "_law_cell_at" (top 35) ["_law_script", "_law_k"]) : Cal P w K mg base "_law_cell_at" 1 (m_cell_at_2c4cb) := by
  exact cal_mk (k := 0) d sc__law_cell_at fun f cdv A outer s H E hr => by
   have tk : Takes (cxOf (L2.CX P w) P w K mg base ["_law_script", "_law_k"] "_law_cell_at" (defScope (top 35)) f cdv A outer s H E) (fun c d _ H' => E c d H') := takes_of rfl rfl rfl rfl
   have hu : (A.deeper (PyProof.Rows.envOfC "_law_cell_at" (defScope (top 35)) s.heap.objs.size f cdv)).units + 65 < cLine := by have := hr.un; omega
   have S := sc__law_cell_at
   exact ss_cons (sx_if (st_cmp op_lt s2_lt (mv 1) (se_callB call_len sn_len (by rfl) T.b_len (by decide +kernel) (sa_cons (mv 0) (sa_nil))) (nomark _))
      (ss_one (sx_ret (se_ix ix_seq s2_ix (mv 0) (mv 1) (fun _ _ => rfl))))
      (ss_nil))
      (ss_one (sx_ret (se_int)))
theorem sc__law_size : FnScope ["_law_makings", "_law_sizes_told", "_law_entry"] ["_law_makings"] (defScope (top 41)) := ⟨rfl, rfl, rfl, by decide +kernel, rfl, by decide +kernel, by decide +kernel⟩
theorem sim__law_size (T : Txt K mg) (d : Df K mg "_law_size" (top 41) ["_law_makings"]) : Cal P w K mg base "_law_size" 1 (m_size_ebd69) := by
  exact cal_mk (k := 0) d sc__law_size fun f cdv A outer s H E hr => by
   have tk : Takes (cxOf (L2.CX P w) P w K mg base ["_law_makings", "_law_sizes_told", "_law_entry"] "_law_size" (defScope (top 41)) f cdv A outer s H E) (fun c d _ H' => E c d H') := takes_of rfl rfl rfl rfl
   have hu : (A.deeper (PyProof.Rows.envOfC "_law_size" (defScope (top 41)) s.heap.objs.size f cdv)).units + 65 < cLine := by have := hr.un; omega
   have S := sc__law_size
   exact ss_cons (sx_set (i := 1) (se_lst (sa_nil)) S.nd)
      (ss_cons (sx_if (st_not (st_val (se_isi (mv 0) T.b_isinstance T.b_tuple (by decide +kernel))))
      (ss_one (sx_ret (se_int)))
      (ss_nil))
      (ss_cons (sx_for (passes_of rfl) (si_iter (mv 0)) (sg_name (i := 2) S.nd)
      (ss_one (sx_if (st_cmp (op_eqA hu) s2_eq (se_callB call_len sn_len (by rfl) T.b_len (by decide +kernel) (sa_cons (mv 2) (sa_nil))) (se_int) (nomark _))
      (ss_one (sx_expr (se_bm PySem.F.plainAttrs_list PySem.F.slot_list_append PySem.F.type_list_append mt_append sty_list sm_append (mv 1) (sa_cons (se_int) (sa_nil)))))
      (ss_one (sx_expr (se_bm PySem.F.plainAttrs_list PySem.F.slot_list_append PySem.F.type_list_append mt_append sty_list sm_append (mv 1) (sa_cons (se_bin op_addA s2_add (se_ix ix_seq s2_ix (mv 1) (se_ix ix_seq s2_ix (mv 2) (se_int) (fun _ _ => rfl)) (fun _ _ => rfl)) (se_ix ix_seq s2_ix (mv 1) (se_ix ix_seq s2_ix (mv 2) (se_int) (fun _ _ => rfl)) (fun _ _ => rfl))) (sa_nil))))))))
      (ss_one (sx_ret (se_ix ix_seq s2_ix (mv 1) (se_bin op_sub s2_sub (se_callB call_len sn_len (by rfl) T.b_len (by decide +kernel) (sa_cons (mv 1) (sa_nil))) (se_int)) (fun _ _ => rfl))))))
theorem sc__law_of_its_own : FnScope ["_law_x", "_law_form", "_law_y", "_law_goal", "_law_caught", "e"] ["_law_x", "_law_form", "_law_y", "_law_goal"] (defScope (top 40)) := ⟨rfl, rfl, rfl, by decide +kernel, rfl, by decide +kernel, by decide +kernel⟩
theorem sim__law_of_its_own (T : Txt K mg) (d : Df K mg "_law_of_its_own" (top 40) ["_law_x", "_law_form", "_law_y", "_law_goal"]) (c_each_is : Cal P w K mg base "each_is" 6 (m_each_is_49549)) : Cal P w K mg base "_law_of_its_own" 7 (m_of_its_own_36e00) := by
  exact cal_mk (k := 6) d sc__law_of_its_own fun f cdv A outer s H E hr => by
   have tk : Takes (cxOf (L2.CX P w) P w K mg base ["_law_x", "_law_form", "_law_y", "_law_goal", "_law_caught", "e"] "_law_of_its_own" (defScope (top 40)) f cdv A outer s H E) (fun c d _ H' => E c d H') := takes_of rfl rfl rfl rfl
   have hu : (A.deeper (PyProof.Rows.envOfC "_law_of_its_own" (defScope (top 40)) s.heap.objs.size f cdv)).units + 65 < cLine := by have := hr.un; omega
   have S := sc__law_of_its_own
   exact ss_cons (sx_set (i := 4) (se_non) S.nd)
      (ss_cons (sx_try (i := 5) (j := 4) T.ex_GraftError tk (fun _ _ _ tk1 => ss_one (sx_expr (se_callC c_each_is (hr.mono (by omega)) tk1 (sa_cons (mv 0) (sa_cons (mv 1) (sa_cons (mv 2) (sa_cons (mv 3) (sa_nil)))))))) S.nd)
      (ss_cons (sx_if (st_val (se_isOs T.is_NoBook_NoDocument_NoName_NoPattern_NoPlace_NoRow_NoTurner_TooLarge (mv 4) T.b_isinstance (nm_cons (nm_cons (nm_cons (nm_cons (nm_cons (nm_cons (nm_cons (nm_cons (NmE.nil)))))))))))
      (ss_one (sx_ret (se_bl)))
      (ss_nil))
      (ss_one (sx_ret (se_and (se_isV T.is_ValueError (mv 4) T.b_isinstance T.b_ValueError (by decide +kernel)) (se_one (se_cmp (op_neA hu) s2_ne (se_isO T.is_NoForm (mv 4) T.b_isinstance) (se_isO T.is_TooMany (mv 4) T.b_isinstance) (nomark _))))))))
theorem sc_law : FnScope ["_law_script", "_law_names_here", "_law_one_many", "_law_other_many", "_law_at", "_law_out", "_law_x", "_law_y", "_law_form", "_law_goal", "_law_many", "_law_due", "_law_bad", "_law_some", "_law_word", "_law_field", "_law_found", "_law_k"] ["_law_script"] (defScope (top 42)) := ⟨rfl, rfl, rfl, by decide +kernel, rfl, by decide +kernel, by decide +kernel⟩
theorem sim_law {fa : Addr} {fd : FuncData} (T : Txt K mg) (F : Fun K "law" "law" (top 42) fa fd) (c__law_names : Cal P w K mg base "_law_names" 2 (m_names_53c1e)) (c__law_cell_at : Cal P w K mg base "_law_cell_at" 1 (m_cell_at_2c4cb)) (c__law_counter : Cal P w K mg base "_law_counter" 1 (m_counter_e5d84)) (c__law_answer : Cal P w K mg base "_law_answer" 7 (m_answer_cd828)) (c__law_of_its_own : Cal P w K mg base "_law_of_its_own" 7 (m_of_its_own_36e00)) (c__law_size : Cal P w K mg base "_law_size" 1 (m_size_ebd69)) : FnOk P w K mg base (L2.CX P w) 8 fa fd ["_law_script"] (spM (gOf w K) m_law_78873) := by
  exact fn_mk (k := 7) F sc_law fun cdv A outer s H E hr => by
   have tk : Takes (cxOf (L2.CX P w) P w K mg base ["_law_script", "_law_names_here", "_law_one_many", "_law_other_many", "_law_at", "_law_out", "_law_x", "_law_y", "_law_form", "_law_goal", "_law_many", "_law_due", "_law_bad", "_law_some", "_law_word", "_law_field", "_law_found", "_law_k"] "law" (defScope (top 42)) fa cdv A outer s H E) (fun c d _ H' => E c d H') := takes_of rfl rfl rfl rfl
   have hu : (A.deeper (PyProof.Rows.envOfC "law" (defScope (top 42)) s.heap.objs.size fa cdv)).units + 65 < cLine := by have := hr.un; omega
   have S := sc_law
   exact ss_cons (sx_set (i := 1) (se_callC c__law_names (hr.mono (by omega)) tk (sa_cons (se_callC c__law_cell_at (hr.mono (by omega)) tk (sa_cons (mv 0) (sa_cons (se_int) (sa_nil)))) (sa_cons (se_int) (sa_nil)))) S.nd)
      (ss_cons (sx_set (i := 2) (se_bin op_addA s2_add (se_int) (se_bin op_mod s2_mod (se_callC c__law_cell_at (hr.mono (by omega)) tk (sa_cons (mv 0) (sa_cons (se_int) (sa_nil)))) (se_int))) S.nd)
      (ss_cons (sx_set (i := 3) (se_bin op_addA s2_add (se_int) (se_bin op_mod s2_mod (se_callC c__law_cell_at (hr.mono (by omega)) tk (sa_cons (mv 0) (sa_cons (se_int) (sa_nil)))) (se_int))) S.nd)
      (ss_cons (sx_if (st_cmp (op_eqA hu) s2_eq (se_bin op_mod s2_mod (se_callC c__law_cell_at (hr.mono (by omega)) tk (sa_cons (mv 0) (sa_cons (se_int) (sa_nil)))) (se_int)) (se_int) (nomark _))
      (ss_cons (sx_set (i := 13) (se_lst (sa_cons (se_tup (sa_cons (se_int) (sa_cons (se_int) (sa_nil)))) (sa_cons (se_tup (sa_cons (se_int) (sa_cons (se_int) (sa_nil)))) (sa_cons (se_tup (sa_cons (se_int) (sa_cons (se_int) (sa_nil)))) (sa_cons (se_tup (sa_cons (se_int) (sa_cons (se_int) (sa_nil)))) (sa_cons (se_tup (sa_cons (se_int) (sa_cons (se_int) (sa_nil)))) (sa_cons (se_tup (sa_cons (se_int) (sa_cons (se_int) (sa_nil)))) (sa_cons (se_tup (sa_cons (se_int) (sa_cons (se_int) (sa_nil)))) (sa_cons (se_tup (sa_cons (se_int) (sa_cons (se_int) (sa_nil)))) (sa_nil)))))))))) S.nd)
      (ss_one (sx_setT (se_ix ix_seq s2_ix (mv 13) (se_bin op_mod s2_mod (se_callC c__law_cell_at (hr.mono (by omega)) tk (sa_cons (mv 0) (sa_cons (se_int) (sa_nil)))) (se_int)) (fun _ _ => rfl)) (sg_tup (sgs_cons (sg_name (i := 2) S.nd) (sgs_cons (sg_name (i := 3) S.nd) (sgs_nil))) (many_cons (many_cons many_nil))))))
      (ss_nil))
      (ss_cons (sx_set (i := 4) (se_bin op_mod s2_mod (se_callC c__law_cell_at (hr.mono (by omega)) tk (sa_cons (mv 0) (sa_cons (se_int) (sa_nil)))) (mv 2)) S.nd)
      (ss_cons (sx_set (i := 5) (se_bin op_mod s2_mod (se_callC c__law_cell_at (hr.mono (by omega)) tk (sa_cons (mv 0) (sa_cons (se_int) (sa_nil)))) (mv 3)) S.nd)
      (ss_cons (sx_set (i := 6) (se_callC c__law_counter (hr.mono (by omega)) tk (sa_cons (se_ix ix_seq s2_ix (mv 1) (se_int) (fun _ _ => rfl)) (sa_cons (mv 2) (sa_cons (se_lc (own := [("_law_k", 17)]) S.nd (si_range1 T.b_range (mv 2)) (blkOk_by (N := ["_law_script", "_law_names_here", "_law_one_many", "_law_other_many", "_law_at", "_law_out", "_law_x", "_law_y", "_law_form", "_law_goal", "_law_many", "_law_due", "_law_bad", "_law_some", "_law_word", "_law_field", "_law_found", "_law_k"]) (sc := defScope (top 42)) (by decide +kernel)) (tg_name 17) (fun _ _ _ _ _ => pg_name (i := 17) S.nd rfl (by first | exact Or.inl rfl | exact Or.inr rfl)) (fun _ _ _ _ _ => st_nil) (fun _ _ _ _ _ => se_callTy call_int1 sn_int (by rfl) T.b_int (by decide +kernel) (sa_cons (se_cmp (op_eqA hu) s2_eq (mv 17) (mv 4) (nomark _)) (sa_nil)))) (sa_nil))))) S.nd)
      (ss_cons (sx_set (i := 7) (se_callC c__law_counter (hr.mono (by omega)) tk (sa_cons (se_ix ix_seq s2_ix (mv 1) (se_int) (fun _ _ => rfl)) (sa_cons (mv 3) (sa_cons (se_lc (own := [("_law_k", 17)]) S.nd (si_range1 T.b_range (mv 3)) (blkOk_by (N := ["_law_script", "_law_names_here", "_law_one_many", "_law_other_many", "_law_at", "_law_out", "_law_x", "_law_y", "_law_form", "_law_goal", "_law_many", "_law_due", "_law_bad", "_law_some", "_law_word", "_law_field", "_law_found", "_law_k"]) (sc := defScope (top 42)) (by decide +kernel)) (tg_name 17) (fun _ _ _ _ _ => pg_name (i := 17) S.nd rfl (by first | exact Or.inl rfl | exact Or.inr rfl)) (fun _ _ _ _ _ => st_nil) (fun _ _ _ _ _ => se_callTy call_int1 sn_int (by rfl) T.b_int (by decide +kernel) (sa_cons (se_cmp (op_neA hu) s2_ne (mv 17) (mv 5) (nomark _)) (sa_nil)))) (sa_nil))))) S.nd)
      (ss_cons (sx_set (i := 8) (se_ix ix_seq s2_ix (mv 1) (se_ix ix_seq s2_ix (se_lst (sa_cons (se_int) (sa_cons (se_int) (sa_cons (se_int) (sa_cons (se_int) (sa_cons (se_int) (sa_nil))))))) (se_bin op_mod s2_mod (se_callC c__law_cell_at (hr.mono (by omega)) tk (sa_cons (mv 0) (sa_cons (se_int) (sa_nil)))) (se_int)) (fun _ _ => rfl)) (fun _ _ => rfl)) S.nd)
      (ss_cons (sx_set (i := 9) (se_ix ix_seq s2_ix (mv 1) (se_ix ix_seq s2_ix (se_lst (sa_cons (se_int) (sa_cons (se_int) (sa_cons (se_int) (sa_cons (se_int) (sa_cons (se_int) (sa_nil))))))) (se_bin op_mod s2_mod (se_callC c__law_cell_at (hr.mono (by omega)) tk (sa_cons (mv 0) (sa_cons (se_int) (sa_nil)))) (se_int)) (fun _ _ => rfl)) (fun _ _ => rfl)) S.nd)
      (ss_cons (sx_setT (se_callC c__law_answer (hr.mono (by omega)) tk (sa_cons (mv 6) (sa_cons (mv 8) (sa_cons (mv 7) (sa_cons (mv 9) (sa_nil)))))) (sg_tup (sgs_cons (sg_name (i := 14) S.nd) (sgs_cons (sg_name (i := 15) S.nd) (sgs_cons (sg_name (i := 16) S.nd) (sgs_nil)))) (many_cons (many_cons (many_cons many_nil)))))
      (ss_cons (sx_if (st_cmp (op_neA hu) s2_ne (mv 8) (se_ix ix_seq s2_ix (mv 1) (se_int) (fun _ _ => rfl)) (nomark _))
      (ss_one (sx_ret (se_and (se_cmp (op_eqA hu) s2_eq (mv 14) (se_str) (nomark _)) (se_and (se_cmp (op_eqA hu) s2_eq (mv 15) (mv 8) (nomark _)) (se_one (se_callC c__law_of_its_own (hr.mono (by omega)) tk (sa_cons (mv 6) (sa_cons (mv 8) (sa_cons (mv 7) (sa_cons (mv 9) (sa_nil)))))))))))
      (ss_nil))
      (ss_cons (sx_if (st_cmp (op_neA hu) s2_ne (mv 9) (se_ix ix_seq s2_ix (mv 1) (se_int) (fun _ _ => rfl)) (nomark _))
      (ss_one (sx_ret (se_and (se_cmp (op_eqA hu) s2_eq (mv 14) (se_str) (nomark _)) (se_and (se_cmp (op_eqA hu) s2_eq (mv 15) (mv 9) (nomark _)) (se_one (se_callC c__law_of_its_own (hr.mono (by omega)) tk (sa_cons (mv 6) (sa_cons (mv 8) (sa_cons (mv 7) (sa_cons (mv 9) (sa_nil)))))))))))
      (ss_nil))
      (ss_cons (sx_set (i := 10) (mv 2) S.nd)
      (ss_cons (sx_while 1000 (passes_of rfl) (st_cmp (op_neA hu) s2_ne (se_bin op_mod s2_mod (mv 10) (mv 3)) (se_int) (nomark _))
      (ss_one (sx_set (i := 10) (se_bin op_addA s2_add (mv 10) (mv 2)) S.nd)))
      (ss_cons (sx_if (st_cmp op_gt s2_gt (mv 10) (se_int) (nomark _))
      (ss_one (sx_ret (se_and (se_cmp (op_eqA hu) s2_eq (mv 14) (se_str) (nomark _)) (se_one (se_callC c__law_of_its_own (hr.mono (by omega)) tk (sa_cons (mv 6) (sa_cons (mv 8) (sa_cons (mv 7) (sa_cons (mv 9) (sa_nil))))))))))
      (ss_nil))
      (ss_cons ((by first | exact sx_setLc (own := [("_law_k", 17)]) (i := 11) S.nd (si_range1 T.b_range (mv 10)) (blkOk_by (N := ["_law_script", "_law_names_here", "_law_one_many", "_law_other_many", "_law_at", "_law_out", "_law_x", "_law_y", "_law_form", "_law_goal", "_law_many", "_law_due", "_law_bad", "_law_some", "_law_word", "_law_field", "_law_found", "_law_k"]) (sc := defScope (top 42)) (by decide +kernel)) (tg_name 17) (fun _ _ _ _ _ => pg_name (i := 17) S.nd rfl (by first | exact Or.inl rfl | exact Or.inr rfl)) (fun _ _ _ _ _ => st_nil) (fun _ _ _ _ _ => se_tup (sa_cons (se_bin op_mod s2_mod (mv 17) (mv 2)) (sa_cons (se_bin op_mod s2_mod (mv 17) (mv 3)) (sa_cons (se_bin op_addA s2_add (mv 17) (se_int)) (sa_nil))))) | exact sx_set (i := 11) (se_lc (own := [("_law_k", 17)]) S.nd (si_range1 T.b_range (mv 10)) (blkOk_by (N := ["_law_script", "_law_names_here", "_law_one_many", "_law_other_many", "_law_at", "_law_out", "_law_x", "_law_y", "_law_form", "_law_goal", "_law_many", "_law_due", "_law_bad", "_law_some", "_law_word", "_law_field", "_law_found", "_law_k"]) (sc := defScope (top 42)) (by decide +kernel)) (tg_name 17) (fun _ _ _ _ _ => pg_name (i := 17) S.nd rfl (by first | exact Or.inl rfl | exact Or.inr rfl)) (fun _ _ _ _ _ => st_nil) (fun _ _ _ _ _ => se_tup (sa_cons (se_bin op_mod s2_mod (mv 17) (mv 2)) (sa_cons (se_bin op_mod s2_mod (mv 17) (mv 3)) (sa_cons (se_bin op_addA s2_add (mv 17) (se_int)) (sa_nil)))))) S.nd))
      (ss_cons (sx_if ((sw_or (st_cmp (op_neA hu) s2_ne (mv 14) (se_str) (nomark _)) (sw_or1 (st_cmp (op_neA hu) s2_ne (se_ix ix_seq s2_ix (mv 16) (se_int) (fun _ _ => rfl)) (se_callB (cr_sortQ hu) sn_sortQ (by rfl) T.b_sorted (by decide +kernel) (sa_cons (mv 11) (sa_nil))) (nomark _)))).pt)
      (ss_one (sx_ret (se_bl)))
      (ss_nil))
      (ss_cons ((by first | exact sx_setLc (own := [("_law_k", 17)]) (i := 12) S.nd (si_range1 T.b_range (mv 10)) (blkOk_by (N := ["_law_script", "_law_names_here", "_law_one_many", "_law_other_many", "_law_at", "_law_out", "_law_x", "_law_y", "_law_form", "_law_goal", "_law_many", "_law_due", "_law_bad", "_law_some", "_law_word", "_law_field", "_law_found", "_law_k"]) (sc := defScope (top 42)) (by decide +kernel)) (tg_name 17) (fun _ _ _ _ _ => pg_name (i := 17) S.nd rfl (by first | exact Or.inl rfl | exact Or.inr rfl)) (fun _ _ _ _ _ => st_one ((sw_and (st_cmp (op_eqA hu) s2_eq (se_bin op_mod s2_mod (mv 17) (mv 2)) (mv 4) (nomark _)) (sw_and1 (st_cmp (op_eqA hu) s2_eq (se_bin op_mod s2_mod (mv 17) (mv 3)) (mv 5) (nomark _)))).pt)) (fun _ _ _ _ _ => mv 17) | exact sx_set (i := 12) (se_lc (own := [("_law_k", 17)]) S.nd (si_range1 T.b_range (mv 10)) (blkOk_by (N := ["_law_script", "_law_names_here", "_law_one_many", "_law_other_many", "_law_at", "_law_out", "_law_x", "_law_y", "_law_form", "_law_goal", "_law_many", "_law_due", "_law_bad", "_law_some", "_law_word", "_law_field", "_law_found", "_law_k"]) (sc := defScope (top 42)) (by decide +kernel)) (tg_name 17) (fun _ _ _ _ _ => pg_name (i := 17) S.nd rfl (by first | exact Or.inl rfl | exact Or.inr rfl)) (fun _ _ _ _ _ => st_one ((sw_and (st_cmp (op_eqA hu) s2_eq (se_bin op_mod s2_mod (mv 17) (mv 2)) (mv 4) (nomark _)) (sw_and1 (st_cmp (op_eqA hu) s2_eq (se_bin op_mod s2_mod (mv 17) (mv 3)) (mv 5) (nomark _)))).pt)) (fun _ _ _ _ _ => mv 17)) S.nd))
      (ss_cons (sx_if (st_cmp (op_eqA hu) s2_eq (mv 12) (se_lst (sa_nil)) (nomark _))
      (ss_one (sx_ret (se_cmp op_isN s2_isN (se_ix ix_seq s2_ix (mv 16) (se_int) (fun _ _ => rfl)) (se_non) (nomark _))))
      (ss_nil))
      (ss_one (sx_ret (se_cmp (op_eqA hu) s2_eq (se_callC c__law_size (hr.mono (by omega)) tk (sa_cons (se_ix ix_seq s2_ix (mv 16) (se_int) (fun _ _ => rfl)) (sa_nil))) (se_bin op_addA s2_add (se_ix ix_seq s2_ix (mv 12) (se_int) (fun _ _ => rfl)) (se_int)) (nomark _)))))))))))))))))))))))
end
theorem all_mk {l : PySem.W.OpenLaw} {w : World} {K : PySem.W.Frag} {h : Heap} {mg : Str → Option Value} {fa : Addr} (X : K.In h) (G : h.Ns mainGlobals mg) (hfa : mg "law" = some (.ref fa))
    {f0 : Addr} {od0 an0 : Option Addr} {sl0 : Array (Option Value)} {oc0 kV0 dc0 pm0 cd0 ct0 : Value} {f1 : Addr} {od1 an1 : Option Addr} {sl1 : Array (Option Value)} {oc1 kV1 dc1 pm1 cd1 ct1 : Value} {f2 : Addr} {od2 an2 : Option Addr} {sl2 : Array (Option Value)} {oc2 kV2 dc2 pm2 cd2 ct2 : Value} {f3 : Addr} {od3 an3 : Option Addr} {sl3 : Array (Option Value)} {oc3 kV3 dc3 pm3 cd3 ct3 : Value} {f4 : Addr} {od4 an4 : Option Addr} {sl4 : Array (Option Value)} {oc4 kV4 dc4 pm4 cd4 ct4 : Value} {f5 : Addr} {od5 an5 : Option Addr} {sl5 : Array (Option Value)} {oc5 kV5 dc5 pm5 cd5 ct5 : Value} {f6 : Addr} {od6 an6 : Option Addr} {sl6 : Array (Option Value)} {oc6 kV6 dc6 pm6 cd6 ct6 : Value} {f7 : Addr} {od7 an7 : Option Addr} {sl7 : Array (Option Value)} {oc7 kV7 dc7 pm7 cd7 ct7 : Value} {f8 : Addr} {od8 an8 : Option Addr} {sl8 : Array (Option Value)} {oc8 kV8 dc8 pm8 cd8 ct8 : Value} {f9 : Addr} {od9 an9 : Option Addr} {sl9 : Array (Option Value)} {oc9 kV9 dc9 pm9 cd9 ct9 : Value} {f10 : Addr} {od10 an10 : Option Addr} {sl10 : Array (Option Value)} {oc10 kV10 dc10 pm10 cd10 ct10 : Value} {f11 : Addr} {od11 an11 : Option Addr} {sl11 : Array (Option Value)} {oc11 kV11 dc11 pm11 cd11 ct11 : Value} {f12 : Addr} {od12 an12 : Option Addr} {sl12 : Array (Option Value)} {oc12 kV12 dc12 pm12 cd12 ct12 : Value} {f13 : Addr} {od13 an13 : Option Addr} {sl13 : Array (Option Value)} {oc13 kV13 dc13 pm13 cd13 ct13 : Value} {f14 : Addr} {od14 an14 : Option Addr} {sl14 : Array (Option Value)} {oc14 kV14 dc14 pm14 cd14 ct14 : Value} {f15 : Addr} {od15 an15 : Option Addr} {sl15 : Array (Option Value)} {oc15 kV15 dc15 pm15 cd15 ct15 : Value} {f16 : Addr} {od16 an16 : Option Addr} {sl16 : Array (Option Value)} {oc16 kV16 dc16 pm16 cd16 ct16 : Value} {f17 : Addr} {od17 an17 : Option Addr} {sl17 : Array (Option Value)} {oc17 kV17 dc17 pm17 cd17 ct17 : Value} {f18 : Addr} {od18 an18 : Option Addr} {sl18 : Array (Option Value)} {oc18 kV18 dc18 pm18 cd18 ct18 : Value} {f19 : Addr} {od19 an19 : Option Addr} {sl19 : Array (Option Value)} {oc19 kV19 dc19 pm19 cd19 ct19 : Value} {f20 : Addr} {od20 an20 : Option Addr} {sl20 : Array (Option Value)} {oc20 kV20 dc20 pm20 cd20 ct20 : Value} {f21 : Addr} {od21 an21 : Option Addr} {sl21 : Array (Option Value)} {oc21 kV21 dc21 pm21 cd21 ct21 : Value} {f22 : Addr} {od22 an22 : Option Addr} {sl22 : Array (Option Value)} {oc22 kV22 dc22 pm22 cd22 ct22 : Value} {f23 : Addr} {od23 an23 : Option Addr} {sl23 : Array (Option Value)} {oc23 kV23 dc23 pm23 cd23 ct23 : Value} {f24 : Addr} {od24 an24 : Option Addr} {sl24 : Array (Option Value)} {oc24 kV24 dc24 pm24 cd24 ct24 : Value} {f25 : Addr} {od25 an25 : Option Addr} {sl25 : Array (Option Value)} {oc25 kV25 dc25 pm25 cd25 ct25 : Value} {f26 : Addr} {od26 an26 : Option Addr} {sl26 : Array (Option Value)} {oc26 kV26 dc26 pm26 cd26 ct26 : Value} {C3 : Addr} {C4 : Addr} {C6 : Addr} {C7 : Addr} {C8 : Addr} {tz_LETTERS : Tok} {tz_STATES : Tok} {C_NoForm fI_NoForm : Addr} {oc_NoForm kV_NoForm dc_NoForm pm_NoForm cd_NoForm ct_NoForm : Value} {od_NoForm an_NoForm : Option Addr} {sl_NoForm : Array (Option Value)}
    (a0 : PySem.W.nsIn K mainGlobals "_law_any_names" = some (some (.ref f0)))
    (l0 : K.lookup f0 = some ⟨oc0, od0, .func (PySem.W.fnOf "_law_any_names" "_law_any_names" (defArgs (top 36)) (defBody (top 36)) (defScope (top 36)) .none kV0 dc0 pm0 an0 cd0 ct0), sl0⟩) (e0 : PySem.W.codeIn K cd0 "_law_any_names" = true) (k0 : PySem.W.keepIn K (.ref f0) = true)
    (a1 : PySem.W.nsIn K mainGlobals "_law_names" = some (some (.ref f1)))
    (l1 : K.lookup f1 = some ⟨oc1, od1, .func (PySem.W.fnOf "_law_names" "_law_names" (defArgs (top 37)) (defBody (top 37)) (defScope (top 37)) .none kV1 dc1 pm1 an1 cd1 ct1), sl1⟩) (e1 : PySem.W.codeIn K cd1 "_law_names" = true) (k1 : PySem.W.keepIn K (.ref f1) = true)
    (a2 : PySem.W.nsIn K mainGlobals "_law_counter" = some (some (.ref f2)))
    (l2 : K.lookup f2 = some ⟨oc2, od2, .func (PySem.W.fnOf "_law_counter" "_law_counter" (defArgs (top 38)) (defBody (top 38)) (defScope (top 38)) .none kV2 dc2 pm2 an2 cd2 ct2), sl2⟩) (e2 : PySem.W.codeIn K cd2 "_law_counter" = true) (k2 : PySem.W.keepIn K (.ref f2) = true)
    (ca3 : PySem.W.nsIn K mainGlobals "Grower" = some (some (.ref C3))) (zf_rd3 : PySem.W.readsIn K C3 (.type "type") = true) (cg3 : PySem.W.specialIn K (.ref C3) "__getattribute__" = some (some (.builtin "type.__getattribute__"))) (cf3 : PySem.W.findCls K (.ref C3) (.type "type") "__init__" = some (.val (.ref f3)))
    (l3 : K.lookup f3 = some ⟨oc3, od3, .func (PySem.W.fnOf "__init__" "Grower.__init__" (defArgs (inner (top 14) 0)) (defBody (inner (top 14) 0)) (defScope (inner (top 14) 0)) .none kV3 dc3 pm3 an3 cd3 ct3), sl3⟩) (e3 : PySem.W.codeIn K cd3 "Grower.__init__" = true) (k3 : PySem.W.keepIn K (.ref f3) = true)
    (ca4 : PySem.W.nsIn K mainGlobals "PairGrower" = some (some (.ref C4)))
    (cm4 : PySem.W.makesIn K C4 = true) (ck4 : PySem.W.keepIn K (.ref C4) = true)
    (a4 : PySem.W.findIn K (.ref C4) "__init__" = some (some (.ref f4))) (cn4 : PySem.W.isFn K (.ref f4) = true)
    (l4 : K.lookup f4 = some ⟨oc4, od4, .func (PySem.W.fnOf "__init__" "PairGrower.__init__" (defArgs (inner (top 15) 0)) (defBody (inner (top 15) 0)) (defScope (inner (top 15) 0)) .none kV4 dc4 pm4 an4 cd4 ct4), sl4⟩) (e4 : PySem.W.codeIn K cd4 "PairGrower.__init__" = true) (k4 : PySem.W.keepIn K (.ref f4) = true)
    (a5 : PySem.W.nsIn K mainGlobals "all_names" = some (some (.ref f5)))
    (l5 : K.lookup f5 = some ⟨oc5, od5, .func (PySem.W.fnOf "all_names" "all_names" (defArgs (top 17)) (defBody (top 17)) (defScope (top 17)) .none kV5 dc5 pm5 an5 cd5 ct5), sl5⟩) (e5 : PySem.W.codeIn K cd5 "all_names" = true) (k5 : PySem.W.keepIn K (.ref f5) = true)
    (ca6 : PySem.W.nsIn K mainGlobals "PairGrower" = some (some (.ref C6)))
    (zf_cb6 : clsB K C6 = true)
    (a6 : PySem.W.findIn K (.ref C6) "number" = some (some (.ref f6))) (cn6 : PySem.W.isFn K (.ref f6) = true)
    (l6 : K.lookup f6 = some ⟨oc6, od6, .func (PySem.W.fnOf "number" "Grower.number" (defArgs (inner (top 14) 2)) (defBody (inner (top 14) 2)) (defScope (inner (top 14) 2)) .none kV6 dc6 pm6 an6 cd6 ct6), sl6⟩) (e6 : PySem.W.codeIn K cd6 "Grower.number" = true) (k6 : PySem.W.keepIn K (.ref f6) = true)
    (ca7 : PySem.W.nsIn K mainGlobals "PairGrower" = some (some (.ref C7)))
    (zf_cb7 : clsB K C7 = true)
    (a7 : PySem.W.findIn K (.ref C7) "step" = some (some (.ref f7))) (cn7 : PySem.W.isFn K (.ref f7) = true)
    (l7 : K.lookup f7 = some ⟨oc7, od7, .func (PySem.W.fnOf "step" "PairGrower.step" (defArgs (inner (top 15) 1)) (defBody (inner (top 15) 1)) (defScope (inner (top 15) 1)) .none kV7 dc7 pm7 an7 cd7 ct7), sl7⟩) (e7 : PySem.W.codeIn K cd7 "PairGrower.step" = true) (k7 : PySem.W.keepIn K (.ref f7) = true)
    (ca8 : PySem.W.nsIn K mainGlobals "PairGrower" = some (some (.ref C8)))
    (zf_cb8 : clsB K C8 = true)
    (a8 : PySem.W.findIn K (.ref C8) "tables" = some (some (.ref f8))) (cn8 : PySem.W.isFn K (.ref f8) = true)
    (l8 : K.lookup f8 = some ⟨oc8, od8, .func (PySem.W.fnOf "tables" "Grower.tables" (defArgs (inner (top 14) 3)) (defBody (inner (top 14) 3)) (defScope (inner (top 14) 3)) .none kV8 dc8 pm8 an8 cd8 ct8), sl8⟩) (e8 : PySem.W.codeIn K cd8 "Grower.tables" = true) (k8 : PySem.W.keepIn K (.ref f8) = true)
    (a9 : PySem.W.nsIn K mainGlobals "start_of" = some (some (.ref f9)))
    (l9 : K.lookup f9 = some ⟨oc9, od9, .func (PySem.W.fnOf "start_of" "start_of" (defArgs (top 16)) (defBody (top 16)) (defScope (top 16)) .none kV9 dc9 pm9 an9 cd9 ct9), sl9⟩) (e9 : PySem.W.codeIn K cd9 "start_of" = true) (k9 : PySem.W.keepIn K (.ref f9) = true)
    (a10 : PySem.W.nsIn K mainGlobals "pairs_of" = some (some (.ref f10)))
    (l10 : K.lookup f10 = some ⟨oc10, od10, .func (PySem.W.fnOf "pairs_of" "pairs_of" (defArgs (top 18)) (defBody (top 18)) (defScope (top 18)) .none kV10 dc10 pm10 an10 cd10 ct10), sl10⟩) (e10 : PySem.W.codeIn K cd10 "pairs_of" = true) (k10 : PySem.W.keepIn K (.ref f10) = true)
    (a11 : PySem.W.nsIn K mainGlobals "lowered" = some (some (.ref f11)))
    (l11 : K.lookup f11 = some ⟨oc11, od11, .func (PySem.W.fnOf "lowered" "lowered" (defArgs (top 24)) (defBody (top 24)) (defScope (top 24)) .none kV11 dc11 pm11 an11 cd11 ct11), sl11⟩) (e11 : PySem.W.codeIn K cd11 "lowered" = true) (k11 : PySem.W.keepIn K (.ref f11) = true)
    (a12 : PySem.W.nsIn K mainGlobals "sizes" = some (some (.ref f12)))
    (l12 : K.lookup f12 = some ⟨oc12, od12, .func (PySem.W.fnOf "sizes" "sizes" (defArgs (top 25)) (defBody (top 25)) (defScope (top 25)) .none kV12 dc12 pm12 an12 cd12 ct12), sl12⟩) (e12 : PySem.W.codeIn K cd12 "sizes" = true) (k12 : PySem.W.keepIn K (.ref f12) = true)
    (a13 : PySem.W.nsIn K mainGlobals "bit_of" = some (some (.ref f13)))
    (l13 : K.lookup f13 = some ⟨oc13, od13, .func (PySem.W.fnOf "bit_of" "bit_of" (defArgs (top 22)) (defBody (top 22)) (defScope (top 22)) .none kV13 dc13 pm13 an13 cd13 ct13), sl13⟩) (e13 : PySem.W.codeIn K cd13 "bit_of" = true) (k13 : PySem.W.keepIn K (.ref f13) = true)
    (a14 : PySem.W.nsIn K mainGlobals "other_name" = some (some (.ref f14)))
    (l14 : K.lookup f14 = some ⟨oc14, od14, .func (PySem.W.fnOf "other_name" "other_name" (defArgs (top 26)) (defBody (top 26)) (defScope (top 26)) .none kV14 dc14 pm14 an14 cd14 ct14), sl14⟩) (e14 : PySem.W.codeIn K cd14 "other_name" = true) (k14 : PySem.W.keepIn K (.ref f14) = true)
    (a15 : PySem.W.nsIn K mainGlobals "source_of" = some (some (.ref f15)))
    (l15 : K.lookup f15 = some ⟨oc15, od15, .func (PySem.W.fnOf "source_of" "source_of" (defArgs (top 27)) (defBody (top 27)) (defScope (top 27)) .none kV15 dc15 pm15 an15 cd15 ct15), sl15⟩) (e15 : PySem.W.codeIn K cd15 "source_of" = true) (k15 : PySem.W.keepIn K (.ref f15) = true)
    (a16 : PySem.W.nsIn K mainGlobals "sources_of" = some (some (.ref f16)))
    (l16 : K.lookup f16 = some ⟨oc16, od16, .func (PySem.W.fnOf "sources_of" "sources_of" (defArgs (top 28)) (defBody (top 28)) (defScope (top 28)) .none kV16 dc16 pm16 an16 cd16 ct16), sl16⟩) (e16 : PySem.W.codeIn K cd16 "sources_of" = true) (k16 : PySem.W.keepIn K (.ref f16) = true)
    (a17 : PySem.W.nsIn K mainGlobals "makings_of" = some (some (.ref f17)))
    (l17 : K.lookup f17 = some ⟨oc17, od17, .func (PySem.W.fnOf "makings_of" "makings_of" (defArgs (top 29)) (defBody (top 29)) (defScope (top 29)) .none kV17 dc17 pm17 an17 cd17 ct17), sl17⟩) (e17 : PySem.W.codeIn K cd17 "makings_of" = true) (k17 : PySem.W.keepIn K (.ref f17) = true)
    (a18 : PySem.W.nsIn K mainGlobals "has_bit" = some (some (.ref f18)))
    (l18 : K.lookup f18 = some ⟨oc18, od18, .func (PySem.W.fnOf "has_bit" "has_bit" (defArgs (top 21)) (defBody (top 21)) (defScope (top 21)) .none kV18 dc18 pm18 an18 cd18 ct18), sl18⟩) (e18 : PySem.W.codeIn K cd18 "has_bit" = true) (k18 : PySem.W.keepIn K (.ref f18) = true)
    (a19 : PySem.W.nsIn K mainGlobals "least" = some (some (.ref f19)))
    (l19 : K.lookup f19 = some ⟨oc19, od19, .func (PySem.W.fnOf "least" "least" (defArgs (top 30)) (defBody (top 30)) (defScope (top 30)) .none kV19 dc19 pm19 an19 cd19 ct19), sl19⟩) (e19 : PySem.W.codeIn K cd19 "least" = true) (k19 : PySem.W.keepIn K (.ref f19) = true)
    (a20 : PySem.W.nsIn K mainGlobals "has_form" = some (some (.ref f20)))
    (l20 : K.lookup f20 = some ⟨oc20, od20, .func (PySem.W.fnOf "has_form" "has_form" (defArgs (top 32)) (defBody (top 32)) (defScope (top 32)) .none kV20 dc20 pm20 an20 cd20 ct20), sl20⟩) (e20 : PySem.W.codeIn K cd20 "has_form" = true) (k20 : PySem.W.keepIn K (.ref f20) = true)
    (a21 : PySem.W.nsIn K mainGlobals "each_is" = some (some (.ref f21)))
    (l21 : K.lookup f21 = some ⟨oc21, od21, .func (PySem.W.fnOf "each_is" "each_is" (defArgs (top 33)) (defBody (top 33)) (defScope (top 33)) .none kV21 dc21 pm21 an21 cd21 ct21), sl21⟩) (e21 : PySem.W.codeIn K cd21 "each_is" = true) (k21 : PySem.W.keepIn K (.ref f21) = true)
    (a22 : PySem.W.nsIn K mainGlobals "_law_answer" = some (some (.ref f22)))
    (l22 : K.lookup f22 = some ⟨oc22, od22, .func (PySem.W.fnOf "_law_answer" "_law_answer" (defArgs (top 39)) (defBody (top 39)) (defScope (top 39)) .none kV22 dc22 pm22 an22 cd22 ct22), sl22⟩) (e22 : PySem.W.codeIn K cd22 "_law_answer" = true) (k22 : PySem.W.keepIn K (.ref f22) = true)
    (a23 : PySem.W.nsIn K mainGlobals "_law_cell_at" = some (some (.ref f23)))
    (l23 : K.lookup f23 = some ⟨oc23, od23, .func (PySem.W.fnOf "_law_cell_at" "_law_cell_at" (defArgs (top 35)) (defBody (top 35)) (defScope (top 35)) .none kV23 dc23 pm23 an23 cd23 ct23), sl23⟩) (e23 : PySem.W.codeIn K cd23 "_law_cell_at" = true) (k23 : PySem.W.keepIn K (.ref f23) = true)
    (a24 : PySem.W.nsIn K mainGlobals "_law_size" = some (some (.ref f24)))
    (l24 : K.lookup f24 = some ⟨oc24, od24, .func (PySem.W.fnOf "_law_size" "_law_size" (defArgs (top 41)) (defBody (top 41)) (defScope (top 41)) .none kV24 dc24 pm24 an24 cd24 ct24), sl24⟩) (e24 : PySem.W.codeIn K cd24 "_law_size" = true) (k24 : PySem.W.keepIn K (.ref f24) = true)
    (a25 : PySem.W.nsIn K mainGlobals "_law_of_its_own" = some (some (.ref f25)))
    (l25 : K.lookup f25 = some ⟨oc25, od25, .func (PySem.W.fnOf "_law_of_its_own" "_law_of_its_own" (defArgs (top 40)) (defBody (top 40)) (defScope (top 40)) .none kV25 dc25 pm25 an25 cd25 ct25), sl25⟩) (e25 : PySem.W.codeIn K cd25 "_law_of_its_own" = true) (k25 : PySem.W.keepIn K (.ref f25) = true)
    (a26 : PySem.W.nsIn K mainGlobals "law" = some (some (.ref f26)))
    (l26 : K.lookup f26 = some ⟨oc26, od26, .func (PySem.W.fnOf "law" "law" (defArgs (top 42)) (defBody (top 42)) (defScope (top 42)) .none kV26 dc26 pm26 an26 cd26 ct26), sl26⟩) (e26 : PySem.W.codeIn K cd26 "law" = true) (k26 : PySem.W.keepIn K (.ref f26) = true)
    (zb_ValueError : PySem.W.nsIn K mainGlobals "ValueError" = some none)
    (zb_int : PySem.W.nsIn K mainGlobals "int" = some none)
    (zb_isinstance : PySem.W.nsIn K mainGlobals "isinstance" = some none)
    (zb_len : PySem.W.nsIn K mainGlobals "len" = some none)
    (zb_list : PySem.W.nsIn K mainGlobals "list" = some none)
    (zb_min : PySem.W.nsIn K mainGlobals "min" = some none)
    (zb_range : PySem.W.nsIn K mainGlobals "range" = some none)
    (zb_set : PySem.W.nsIn K mainGlobals "set" = some none)
    (zb_sorted : PySem.W.nsIn K mainGlobals "sorted" = some none)
    (zb_tuple : PySem.W.nsIn K mainGlobals "tuple" = some none)
    (zg_LETTERS : PySem.W.nsIn K mainGlobals "LETTERS" = some (some (.str (Str.ofString "abcdefghijklmnopqrstuvwxyz") tz_LETTERS)))
    (zg_STATES : PySem.W.nsIn K mainGlobals "STATES" = some (some (.int (64) tz_STATES)))
    (zf_ct_numbers : ctB K "numbers" [(Str.ofString "PairGrower")] = true)
    (zf_ct_one : ctB K "one" [(Str.ofString "PairGrower")] = true)
    (zf_ct_other : ctB K "other" [(Str.ofString "PairGrower")] = true)
    (zf_ct_states : ctB K "states" [(Str.ofString "PairGrower")] = true)
    (zf_ex_GraftError : exTB K "GraftError" [((Str.ofString "NoForm"), true), ((Str.ofString "TooMany"), true)] = true)
    (zf_ex_NoForm : exTB K "NoForm" [((Str.ofString "NoForm"), true), ((Str.ofString "TooMany"), false)] = true)
    (zf_ex_TooMany : exTB K "TooMany" [((Str.ofString "NoForm"), false), ((Str.ofString "TooMany"), true)] = true)
    (zf_fl_form : flTB K "form" [(Str.ofString "NoForm")] = true)
    (zf_is_NoBook_NoDocument_NoName_NoPattern_NoPlace_NoRow_NoTurner_TooLarge : isTsB K [(Str.ofString "NoBook"), (Str.ofString "NoDocument"), (Str.ofString "NoName"), (Str.ofString "NoPattern"), (Str.ofString "NoPlace"), (Str.ofString "NoRow"), (Str.ofString "NoTurner"), (Str.ofString "TooLarge")] [((Str.ofString "NoForm"), false), ((Str.ofString "TooMany"), false)] = true)
    (zf_is_NoForm : isTB K "NoForm" [((Str.ofString "NoForm"), true), ((Str.ofString "TooMany"), false)] = true)
    (zf_is_TooMany : isTB K "TooMany" [((Str.ofString "NoForm"), false), ((Str.ofString "TooMany"), true)] = true)
    (zf_is_ValueError : isBB K "ValueError" [((Str.ofString "NoForm"), true), ((Str.ofString "TooMany"), true)] = true)
    (zf_r_TooMany : x0B K "TooMany" = true)
    (xa_NoForm : PySem.W.nsIn K mainGlobals "NoForm" = some (some (.ref C_NoForm))) (xc_NoForm : oexB K C_NoForm = true) (xi_NoForm : PySem.W.findIn K (.ref C_NoForm) "__init__" = some (some (.ref fI_NoForm))) (xt_NoForm : PySem.W.typeIn K (.ref fI_NoForm) = some (.type "function")) (xn_NoForm : PySem.W.findIn K (.ref C_NoForm) "form" = some none)
    (xl_NoForm : K.lookup fI_NoForm = some ⟨oc_NoForm, od_NoForm, .func (PySem.W.fnOf "__init__" "NoForm.__init__" (defArgs (inner (top 7) 0)) (defBody (inner (top 7) 0)) (defScope (inner (top 7) 0)) .none kV_NoForm dc_NoForm pm_NoForm an_NoForm cd_NoForm ct_NoForm), sl_NoForm⟩) (xe_NoForm : PySem.W.codeIn K cd_NoForm "NoForm.__init__" = true) (xk_NoForm : PySem.W.keepIn K (.ref fI_NoForm) = true) :
    ∃ fd : FuncData, (∀ (s : Shared) (v : Value), BindsTo s fd ⟨[v], []⟩ [("_law_script", v)]) ∧ ∀ base : Heap, K.In base → base.Ns mainGlobals mg → FnOk l.prog w K mg base (L2.CX l.prog w) 8 fa fd ["_law_script"] (spM (gOf w K) m_law_78873) := by
  have T : Txt K mg := ⟨PySem.W.mg_none_of X G zb_ValueError, PySem.W.mg_none_of X G zb_int, PySem.W.mg_none_of X G zb_isinstance, PySem.W.mg_none_of X G zb_len, PySem.W.mg_none_of X G zb_list, PySem.W.mg_none_of X G zb_min, PySem.W.mg_none_of X G zb_range, PySem.W.mg_none_of X G zb_set, PySem.W.mg_none_of X G zb_sorted, PySem.W.mg_none_of X G zb_tuple, ⟨_, PySem.W.mg_of X G zg_LETTERS⟩, ⟨_, PySem.W.mg_of X G zg_STATES⟩, ctB_ok zf_ct_numbers, ctB_ok zf_ct_one, ctB_ok zf_ct_other, ctB_ok zf_ct_states, exTB_ok X G zf_ex_GraftError, exTB_ok X G zf_ex_NoForm, exTB_ok X G zf_ex_TooMany, flTB_ok zf_fl_form, isTsB_ok X G zf_is_NoBook_NoDocument_NoName_NoPattern_NoPlace_NoRow_NoTurner_TooLarge, isTB_ok X G zf_is_NoForm, isTB_ok X G zf_is_TooMany, isBB_ok zf_is_ValueError, x0B_ok X G zf_r_TooMany⟩
  have xi_NoForm : ∀ base : Heap, XI l.prog w K mg base "NoForm" "form" := fun base => xi_mk (f := "form") X G xa_NoForm (oexB_ok xc_NoForm) xi_NoForm xt_NoForm xn_NoForm xl_NoForm xe_NoForm xk_NoForm sc_init_NoForm (fun _ F cdv A outer s H E => pss_one (ps_ost (pv 0) (pv 1))) (fun _ _ _ _ _ _ us hl => match us, hl with | [_, _], _ => rfl)
  have d0 : Df K mg "_law_any_names" (top 36) ["_law_cell", "_law_many"] := df_mk X G a0 l0 e0 k0 fun _ _ _ _ _ _ us hl => match us, hl with | [_, _], _ => rfl
  have c0 : ∀ base : Heap, Cal l.prog w K mg base "_law_any_names" 1 (m_any_names_23d34) := fun base => sim__law_any_names T d0
  have d1 : Df K mg "_law_names" (top 37) ["_law_cell", "_law_many"] := df_mk X G a1 l1 e1 k1 fun _ _ _ _ _ _ us hl => match us, hl with | [_, _], _ => rfl
  have c1 : ∀ base : Heap, Cal l.prog w K mg base "_law_names" 2 (m_names_53c1e) := fun base => sim__law_names T d1 (c0 base)
  have d2 : Df K mg "_law_counter" (top 38) ["_law_form", "_law_many", "_law_marks"] := df_mk X G a2 l2 e2 k2 fun _ _ _ _ _ _ us hl => match us, hl with | [_, _, _], _ => rfl
  have c2 : ∀ base : Heap, Cal l.prog w K mg base "_law_counter" 1 (m_counter_e5d84) := fun base => sim__law_counter T d2
  have d3 : Dc K mg "Grower" "__init__" "Grower.__init__" (inner (top 14) 0) ["self"] := dc_mk X G ca3 zf_rd3 cg3 cf3 l3 e3 k3 fun _ _ _ _ _ _ us hl => match us, hl with | [_], _ => rfl
  have c3 : ∀ base : Heap, CfOf l.prog w K mg base "Grower" "__init__" 1 (m_Grower___init___c_31163) := fun base => sim_Grower___init___c T d3
  have d4 : Di K mg "PairGrower" "PairGrower.__init__" (inner (top 15) 0) ["self", "one", "other"] := di_mk X G ca4 cm4 a4 cn4 ck4 l4 e4 k4 fun _ _ _ _ _ _ us hl => match us, hl with | [_, _, _], _ => rfl
  have c4 : ∀ base : Heap, MkOf l.prog w K mg base "PairGrower" 2 (m_PairGrower___init___06085) := fun base => sim_PairGrower___init__ T d4 (c3 base)
  have d5 : Df K mg "all_names" (top 17) ["some", "others"] := df_mk X G a5 l5 e5 k5 fun _ _ _ _ _ _ us hl => match us, hl with | [_, _], _ => rfl
  have c5 : ∀ base : Heap, Cal l.prog w K mg base "all_names" 1 (m_all_names_5befd) := fun base => sim_all_names T d5
  have d6 : Dm K "PairGrower" "number" "Grower.number" (inner (top 14) 2) ["self", "state"] := dm_mk ca6 zf_cb6 a6 cn6 l6 e6 k6 fun _ _ _ _ _ _ us hl => match us, hl with | [_, _], _ => rfl
  have c6 : ∀ base : Heap, MtOf l.prog w K mg base "PairGrower" "number" 1 (m_PairGrower_number_cc1e1) := fun base => sim_PairGrower_number T d6
  have d7 : Dm K "PairGrower" "step" "PairGrower.step" (inner (top 15) 1) ["self", "one", "other"] := dm_mk ca7 zf_cb7 a7 cn7 l7 e7 k7 fun _ _ _ _ _ _ us hl => match us, hl with | [_, _, _], _ => rfl
  have c7 : ∀ base : Heap, MtOf l.prog w K mg base "PairGrower" "step" 1 (m_PairGrower_step_cba85) := fun base => sim_PairGrower_step T d7
  have d8 : Dm K "PairGrower" "tables" "Grower.tables" (inner (top 14) 3) ["self", "starts"] := dm_mk ca8 zf_cb8 a8 cn8 l8 e8 k8 fun _ _ _ _ _ _ us hl => match us, hl with | [_, _], _ => rfl
  have c8 : ∀ base : Heap, MtOf l.prog w K mg base "PairGrower" "tables" 2 (m_PairGrower_tables_dba21) := fun base => sim_PairGrower_tables T d8 (c6 base) (c7 base)
  have d9 : Df K mg "start_of" (top 16) ["machine", "name"] := df_mk X G a9 l9 e9 k9 fun _ _ _ _ _ _ us hl => match us, hl with | [_, _], _ => rfl
  have c9 : ∀ base : Heap, Cal l.prog w K mg base "start_of" 1 (m_start_of_78275) := fun base => sim_start_of T d9
  have d10 : Df K mg "pairs_of" (top 18) ["one", "other"] := df_mk X G a10 l10 e10 k10 fun _ _ _ _ _ _ us hl => match us, hl with | [_, _], _ => rfl
  have c10 : ∀ base : Heap, Cal l.prog w K mg base "pairs_of" 4 (m_pairs_of_cf4b8) := fun base => sim_pairs_of T d10 (c4 base) (c5 base) (c9 base) (c8 base)
  have d11 : Df K mg "lowered" (top 24) ["machine", "found"] := df_mk X G a11 l11 e11 k11 fun _ _ _ _ _ _ us hl => match us, hl with | [_, _], _ => rfl
  have c11 : ∀ base : Heap, Cal l.prog w K mg base "lowered" 1 (m_lowered_0b90e) := fun base => sim_lowered T d11
  have d12 : Df K mg "sizes" (top 25) ["machine"] := df_mk X G a12 l12 e12 k12 fun _ _ _ _ _ _ us hl => match us, hl with | [_], _ => rfl
  have c12 : ∀ base : Heap, Cal l.prog w K mg base "sizes" 2 (m_sizes_9dfee) := fun base => sim_sizes T d12 (c11 base)
  have d13 : Df K mg "bit_of" (top 22) ["machine", "form"] := df_mk X G a13 l13 e13 k13 fun _ _ _ _ _ _ us hl => match us, hl with | [_, _], _ => rfl
  have c13 : ∀ base : Heap, Cal l.prog w K mg base "bit_of" 3 (m_bit_of_97f34) := fun base => sim_bit_of T d13 (xi_NoForm base)
  have d14 : Df K mg "other_name" (top 26) ["names"] := df_mk X G a14 l14 e14 k14 fun _ _ _ _ _ _ us hl => match us, hl with | [_], _ => rfl
  have c14 : ∀ base : Heap, Cal l.prog w K mg base "other_name" 1 (m_other_name_452b4) := fun base => sim_other_name T d14
  have d15 : Df K mg "source_of" (top 27) ["machine", "told", "state"] := df_mk X G a15 l15 e15 k15 fun _ _ _ _ _ _ us hl => match us, hl with | [_, _, _], _ => rfl
  have c15 : ∀ base : Heap, Cal l.prog w K mg base "source_of" 2 (m_source_of_7e334) := fun base => sim_source_of T d15 (c14 base)
  have d16 : Df K mg "sources_of" (top 28) ["machine", "told", "state"] := df_mk X G a16 l16 e16 k16 fun _ _ _ _ _ _ us hl => match us, hl with | [_, _, _], _ => rfl
  have c16 : ∀ base : Heap, Cal l.prog w K mg base "sources_of" 3 (m_sources_of_a14e9) := fun base => sim_sources_of T d16 (c15 base)
  have d17 : Df K mg "makings_of" (top 29) ["machine", "state"] := df_mk X G a17 l17 e17 k17 fun _ _ _ _ _ _ us hl => match us, hl with | [_, _], _ => rfl
  have c17 : ∀ base : Heap, Cal l.prog w K mg base "makings_of" 4 (m_makings_of_8c00c) := fun base => sim_makings_of T d17 (c12 base) (c16 base)
  have d18 : Df K mg "has_bit" (top 21) ["machine", "state", "bit"] := df_mk X G a18 l18 e18 k18 fun _ _ _ _ _ _ us hl => match us, hl with | [_, _, _], _ => rfl
  have c18 : ∀ base : Heap, Cal l.prog w K mg base "has_bit" 1 (m_has_bit_05807) := fun base => sim_has_bit T d18
  have d19 : Df K mg "least" (top 30) ["machine", "form"] := df_mk X G a19 l19 e19 k19 fun _ _ _ _ _ _ us hl => match us, hl with | [_, _], _ => rfl
  have c19 : ∀ base : Heap, Cal l.prog w K mg base "least" 5 (m_least_75c60) := fun base => sim_least T d19 (c13 base) (c12 base) (c18 base) (c17 base)
  have d20 : Df K mg "has_form" (top 32) ["machine", "state", "form"] := df_mk X G a20 l20 e20 k20 fun _ _ _ _ _ _ us hl => match us, hl with | [_, _, _], _ => rfl
  have c20 : ∀ base : Heap, Cal l.prog w K mg base "has_form" 1 (m_has_form_255e2) := fun base => sim_has_form T d20
  have d21 : Df K mg "each_is" (top 33) ["one", "form", "other", "goal"] := df_mk X G a21 l21 e21 k21 fun _ _ _ _ _ _ us hl => match us, hl with | [_, _, _, _], _ => rfl
  have c21 : ∀ base : Heap, Cal l.prog w K mg base "each_is" 6 (m_each_is_49549) := fun base => sim_each_is T d21 (c10 base) (c20 base) (c12 base) (c19 base) (xi_NoForm base)
  have d22 : Df K mg "_law_answer" (top 39) ["_law_x", "_law_form", "_law_y", "_law_goal"] := df_mk X G a22 l22 e22 k22 fun _ _ _ _ _ _ us hl => match us, hl with | [_, _, _, _], _ => rfl
  have c22 : ∀ base : Heap, Cal l.prog w K mg base "_law_answer" 7 (m_answer_cd828) := fun base => sim__law_answer T d22 (c21 base)
  have d23 : Df K mg "_law_cell_at" (top 35) ["_law_script", "_law_k"] := df_mk X G a23 l23 e23 k23 fun _ _ _ _ _ _ us hl => match us, hl with | [_, _], _ => rfl
  have c23 : ∀ base : Heap, Cal l.prog w K mg base "_law_cell_at" 1 (m_cell_at_2c4cb) := fun base => sim__law_cell_at T d23
  have d24 : Df K mg "_law_size" (top 41) ["_law_makings"] := df_mk X G a24 l24 e24 k24 fun _ _ _ _ _ _ us hl => match us, hl with | [_], _ => rfl
  have c24 : ∀ base : Heap, Cal l.prog w K mg base "_law_size" 1 (m_size_ebd69) := fun base => sim__law_size T d24
  have d25 : Df K mg "_law_of_its_own" (top 40) ["_law_x", "_law_form", "_law_y", "_law_goal"] := df_mk X G a25 l25 e25 k25 fun _ _ _ _ _ _ us hl => match us, hl with | [_, _, _, _], _ => rfl
  have c25 : ∀ base : Heap, Cal l.prog w K mg base "_law_of_its_own" 7 (m_of_its_own_36e00) := fun base => sim__law_of_its_own T d25 (c21 base)
  have ea := hfa.symm.trans (PySem.W.mg_of X G a26)
  cases ea
  have F := fun_mk (st := top 42) l26 e26 k26
  exact ⟨PySem.W.fnOf "law" "law" (defArgs (top 42)) (defBody (top 42)) (defScope (top 42)) .none kV26 dc26 pm26 an26 cd26 ct26, fun s v => .of_eq rfl, fun base _ _ => sim_law T F (c1 base) (c23 base) (c2 base) (c22 base) (c25 base) (c24 base)⟩
end Sk53

open PySem PySem.W PyProof.Rows
set_option maxRecDepth 100000 in
set_option maxHeartbeats 0 in
theorem PySem.Challenge.cw_graftform_k53_counters_held_together_holds : PySem.Challenge.rw_graftform_k53_counters_held_together.Holds := by
  w_on; o_law; k_head; (case hw => w_witness2)
  k_fill
  refine Mi.law_end (l := PySem.Challenge.rw_graftform_k53_counters_held_together) (k := 8) (x := "_law_script") (F := Mi.m_law_78873) Mi.main_k53 rfl rfl ⟨rfl, by decide, by decide⟩ (fun w h Y => PySem.W.kIn_of Y) ?F
  case F =>
    intro w mg fa h KX G hmg
    refine' Sk53.all_mk KX G hmg ?a0 ?l0 ?e0 ?k0 ?a1 ?l1 ?e1 ?k1 ?a2 ?l2 ?e2 ?k2 ?ca3 ?zf_rd3 ?cg3 ?cf3 ?l3 ?e3 ?k3 ?ca4 ?cm4 ?ck4 ?a4 ?cn4 ?l4 ?e4 ?k4 ?a5 ?l5 ?e5 ?k5 ?ca6 ?zf_cb6 ?a6 ?cn6 ?l6 ?e6 ?k6 ?ca7 ?zf_cb7 ?a7 ?cn7 ?l7 ?e7 ?k7 ?ca8 ?zf_cb8 ?a8 ?cn8 ?l8 ?e8 ?k8 ?a9 ?l9 ?e9 ?k9 ?a10 ?l10 ?e10 ?k10 ?a11 ?l11 ?e11 ?k11 ?a12 ?l12 ?e12 ?k12 ?a13 ?l13 ?e13 ?k13 ?a14 ?l14 ?e14 ?k14 ?a15 ?l15 ?e15 ?k15 ?a16 ?l16 ?e16 ?k16 ?a17 ?l17 ?e17 ?k17 ?a18 ?l18 ?e18 ?k18 ?a19 ?l19 ?e19 ?k19 ?a20 ?l20 ?e20 ?k20 ?a21 ?l21 ?e21 ?k21 ?a22 ?l22 ?e22 ?k22 ?a23 ?l23 ?e23 ?k23 ?a24 ?l24 ?e24 ?k24 ?a25 ?l25 ?e25 ?k25 ?a26 ?l26 ?e26 ?k26 ?zb_ValueError ?zb_int ?zb_isinstance ?zb_len ?zb_list ?zb_min ?zb_range ?zb_set ?zb_sorted ?zb_tuple ?zg_LETTERS ?zg_STATES ?zf_ct_numbers ?zf_ct_one ?zf_ct_other ?zf_ct_states ?zf_ex_GraftError ?zf_ex_NoForm ?zf_ex_TooMany ?zf_fl_form ?zf_is_NoBook_NoDocument_NoName_NoPattern_NoPlace_NoRow_NoTurner_TooLarge ?zf_is_NoForm ?zf_is_TooMany ?zf_is_ValueError ?zf_r_TooMany ?xa_NoForm ?xc_NoForm ?xi_NoForm ?xt_NoForm ?xn_NoForm ?xl_NoForm ?xe_NoForm ?xk_NoForm
    (case a0 => k_is)
    (case l0 => k_is)
    (case e0 => k_is)
    (case k0 => k_is)
    (case a1 => k_is)
    (case l1 => k_is)
    (case e1 => k_is)
    (case k1 => k_is)
    (case a2 => k_is)
    (case l2 => k_is)
    (case e2 => k_is)
    (case k2 => k_is)
    (case ca3 => k_is)
    (case zf_rd3 => kernel_rfl)
    (case cg3 => k_is)
    (case cf3 => k_is)
    (case l3 => k_is)
    (case e3 => k_is)
    (case k3 => k_is)
    (case ca4 => k_is)
    (case cm4 => k_is)
    (case ck4 => k_is)
    (case a4 => k_is)
    (case cn4 => k_is)
    (case l4 => k_is)
    (case e4 => k_is)
    (case k4 => k_is)
    (case a5 => k_is)
    (case l5 => k_is)
    (case e5 => k_is)
    (case k5 => k_is)
    (case ca6 => k_is)
    (case zf_cb6 => kernel_rfl)
    (case a6 => k_is)
    (case cn6 => k_is)
    (case l6 => k_is)
    (case e6 => k_is)
    (case k6 => k_is)
    (case ca7 => k_is)
    (case zf_cb7 => kernel_rfl)
    (case a7 => k_is)
    (case cn7 => k_is)
    (case l7 => k_is)
    (case e7 => k_is)
    (case k7 => k_is)
    (case ca8 => k_is)
    (case zf_cb8 => kernel_rfl)
    (case a8 => k_is)
    (case cn8 => k_is)
    (case l8 => k_is)
    (case e8 => k_is)
    (case k8 => k_is)
    (case a9 => k_is)
    (case l9 => k_is)
    (case e9 => k_is)
    (case k9 => k_is)
    (case a10 => k_is)
    (case l10 => k_is)
    (case e10 => k_is)
    (case k10 => k_is)
    (case a11 => k_is)
    (case l11 => k_is)
    (case e11 => k_is)
    (case k11 => k_is)
    (case a12 => k_is)
    (case l12 => k_is)
    (case e12 => k_is)
    (case k12 => k_is)
    (case a13 => k_is)
    (case l13 => k_is)
    (case e13 => k_is)
    (case k13 => k_is)
    (case a14 => k_is)
    (case l14 => k_is)
    (case e14 => k_is)
    (case k14 => k_is)
    (case a15 => k_is)
    (case l15 => k_is)
    (case e15 => k_is)
    (case k15 => k_is)
    (case a16 => k_is)
    (case l16 => k_is)
    (case e16 => k_is)
    (case k16 => k_is)
    (case a17 => k_is)
    (case l17 => k_is)
    (case e17 => k_is)
    (case k17 => k_is)
    (case a18 => k_is)
    (case l18 => k_is)
    (case e18 => k_is)
    (case k18 => k_is)
    (case a19 => k_is)
    (case l19 => k_is)
    (case e19 => k_is)
    (case k19 => k_is)
    (case a20 => k_is)
    (case l20 => k_is)
    (case e20 => k_is)
    (case k20 => k_is)
    (case a21 => k_is)
    (case l21 => k_is)
    (case e21 => k_is)
    (case k21 => k_is)
    (case a22 => k_is)
    (case l22 => k_is)
    (case e22 => k_is)
    (case k22 => k_is)
    (case a23 => k_is)
    (case l23 => k_is)
    (case e23 => k_is)
    (case k23 => k_is)
    (case a24 => k_is)
    (case l24 => k_is)
    (case e24 => k_is)
    (case k24 => k_is)
    (case a25 => k_is)
    (case l25 => k_is)
    (case e25 => k_is)
    (case k25 => k_is)
    (case a26 => k_is)
    (case l26 => k_is)
    (case e26 => k_is)
    (case k26 => k_is)
    (case zb_ValueError => k_is)
    (case zb_int => k_is)
    (case zb_isinstance => k_is)
    (case zb_len => k_is)
    (case zb_list => k_is)
    (case zb_min => k_is)
    (case zb_range => k_is)
    (case zb_set => k_is)
    (case zb_sorted => k_is)
    (case zb_tuple => k_is)
    (case zg_LETTERS => k_is)
    (case zg_STATES => k_is)
    (case zf_ct_numbers => kernel_rfl)
    (case zf_ct_one => kernel_rfl)
    (case zf_ct_other => kernel_rfl)
    (case zf_ct_states => kernel_rfl)
    (case zf_ex_GraftError => kernel_rfl)
    (case zf_ex_NoForm => kernel_rfl)
    (case zf_ex_TooMany => kernel_rfl)
    (case zf_fl_form => kernel_rfl)
    (case zf_is_NoBook_NoDocument_NoName_NoPattern_NoPlace_NoRow_NoTurner_TooLarge => kernel_rfl)
    (case zf_is_NoForm => kernel_rfl)
    (case zf_is_TooMany => kernel_rfl)
    (case zf_is_ValueError => kernel_rfl)
    (case zf_r_TooMany => kernel_rfl)
    (case xa_NoForm => k_is)
    (case xc_NoForm => kernel_rfl)
    (case xi_NoForm => k_is)
    (case xt_NoForm => k_is)
    (case xn_NoForm => k_is)
    (case xl_NoForm => k_is)
    (case xe_NoForm => k_is)
    (case xk_NoForm => k_is)

