import PyProof.Rows.All
import Wide.All
import OpenK.AllK
import Wide.FinOn
import HandS.ForMost
import HandS.Exc
import HandS.TryOnly
import HandS.ExcOwn
import HandS.WordsExc
import HandS.Wide
import HandS.WideBits
import HandS.EndBits
import HandS.IsInst
import HandS.TupAny
import HandS.Style
import HandS.RevRange
import HandS.Deep
import HandS.Strs
import HandS.Conv
import HandS.Flow
import HandS.DeepEq
import KE.KeyNested
import HandS.ExcInit
import HandS.ExcIs
import HandS.ExcField
import KE.KExcIs
import HandS.Iter
import HandS.TupMul
import HandS.Zip
import HandS.Defaults
import HandS.CallSlots
import KE.KDictSum
import KE.SortData
import HandS.ExcValue
import HandS.Text
import HandS.SetFor
import HandS.TupSets
import KE.KDictPairs
import PyProof.Rows.TupTab
import HandS.More
import HandS.ClsMeth
import KE.KRevSl
import KE.DataMinMax
import KE.KIndexWalk
import PyProof.DictMoreH
import PyProof.Rows.RowBridgeK
import HandS.SetKeys
import KE.KDictCopyH
import PyProof.WalksMore
import PyProof.Rows.CallKwBuiltin
import HandS.StrMore
import KE.KDictDisplayH
import KE.GoesMore
import KE.KTurns
import KE.KEqDict
import KE.DataCmp
import KE.KDictWalk
import HandS.TupLen
import HandS.WordsDict
import PySem.Challenge.RW_graftform_k74_two_turners_in_one
set_option Elab.async false
set_option linter.all false
set_option maxRecDepth 100000
set_option maxHeartbeats 4000000
/-! Mir: each def of the program as a Lean function over plain values (tuples by value, lists, dicts, instances in a heap of their own, numbered), and the proof that the def does what the function says. -/
namespace Mi
open PySem L2

inductive D where
  | non | bl (b : Bool) | int (i : Int) | str (x : Str) | tup (l : List D) | ref (i : Nat) | xo (c f : Str) (v : D)
mutual
def D.dec : (a b : D) → Decidable (a = b)
  | .non, .non => .isTrue rfl
  | .non, .bl _ => .isFalse (fun e => nomatch e)
  | .non, .int _ => .isFalse (fun e => nomatch e)
  | .non, .str _ => .isFalse (fun e => nomatch e)
  | .non, .tup _ => .isFalse (fun e => nomatch e)
  | .non, .ref _ => .isFalse (fun e => nomatch e)
  | .bl _, .non => .isFalse (fun e => nomatch e)
  | .bl a, .bl b => if h : a = b then .isTrue (by rw [h]) else .isFalse (fun e => h (D.bl.inj e))
  | .bl _, .int _ => .isFalse (fun e => nomatch e)
  | .bl _, .str _ => .isFalse (fun e => nomatch e)
  | .bl _, .tup _ => .isFalse (fun e => nomatch e)
  | .bl _, .ref _ => .isFalse (fun e => nomatch e)
  | .int _, .non => .isFalse (fun e => nomatch e)
  | .int _, .bl _ => .isFalse (fun e => nomatch e)
  | .int a, .int b => if h : a = b then .isTrue (by rw [h]) else .isFalse (fun e => h (D.int.inj e))
  | .int _, .str _ => .isFalse (fun e => nomatch e)
  | .int _, .tup _ => .isFalse (fun e => nomatch e)
  | .int _, .ref _ => .isFalse (fun e => nomatch e)
  | .str _, .non => .isFalse (fun e => nomatch e)
  | .str _, .bl _ => .isFalse (fun e => nomatch e)
  | .str _, .int _ => .isFalse (fun e => nomatch e)
  | .str a, .str b => if h : a = b then .isTrue (by rw [h]) else .isFalse (fun e => h (D.str.inj e))
  | .str _, .tup _ => .isFalse (fun e => nomatch e)
  | .str _, .ref _ => .isFalse (fun e => nomatch e)
  | .tup _, .non => .isFalse (fun e => nomatch e)
  | .tup _, .bl _ => .isFalse (fun e => nomatch e)
  | .tup _, .int _ => .isFalse (fun e => nomatch e)
  | .tup _, .str _ => .isFalse (fun e => nomatch e)
  | .tup a, .tup b => match D.decs a b with
    | .isTrue h => .isTrue (by rw [h])
    | .isFalse h => .isFalse (fun e => h (D.tup.inj e))
  | .tup _, .ref _ => .isFalse (fun e => nomatch e)
  | .ref _, .non => .isFalse (fun e => nomatch e)
  | .ref _, .bl _ => .isFalse (fun e => nomatch e)
  | .ref _, .int _ => .isFalse (fun e => nomatch e)
  | .ref _, .str _ => .isFalse (fun e => nomatch e)
  | .ref _, .tup _ => .isFalse (fun e => nomatch e)
  | .ref a, .ref b => if h : a = b then .isTrue (by rw [h]) else .isFalse (fun e => h (D.ref.inj e))
  | .non, .xo _ _ _ => .isFalse (fun e => nomatch e)
  | .xo _ _ _, .non => .isFalse (fun e => nomatch e)
  | .bl _, .xo _ _ _ => .isFalse (fun e => nomatch e)
  | .xo _ _ _, .bl _ => .isFalse (fun e => nomatch e)
  | .int _, .xo _ _ _ => .isFalse (fun e => nomatch e)
  | .xo _ _ _, .int _ => .isFalse (fun e => nomatch e)
  | .str _, .xo _ _ _ => .isFalse (fun e => nomatch e)
  | .xo _ _ _, .str _ => .isFalse (fun e => nomatch e)
  | .tup _, .xo _ _ _ => .isFalse (fun e => nomatch e)
  | .xo _ _ _, .tup _ => .isFalse (fun e => nomatch e)
  | .ref _, .xo _ _ _ => .isFalse (fun e => nomatch e)
  | .xo _ _ _, .ref _ => .isFalse (fun e => nomatch e)
  | .xo c f v, .xo c' f' v' => match D.dec v v' with
    | .isTrue h => if k : c = c' ∧ f = f' then .isTrue (by rw [h, k.1, k.2]) else .isFalse (fun e => by cases e; exact k ⟨rfl, rfl⟩)
    | .isFalse h => .isFalse (fun e => by cases e; exact h rfl)
def D.decs : (a b : List D) → Decidable (a = b)
  | [], [] => .isTrue rfl
  | [], _ :: _ => .isFalse (fun e => nomatch e)
  | _ :: _, [] => .isFalse (fun e => nomatch e)
  | a :: r, b :: s => match D.dec a b, D.decs r s with
    | .isTrue h, .isTrue k => .isTrue (by rw [h, k])
    | .isFalse h, _ => .isFalse (fun e => h (List.cons.inj e).1)
    | _, .isFalse k => .isFalse (fun e => k (List.cons.inj e).2)
end
instance : DecidableEq D := D.dec

inductive MO where
  | lst (l : List D) | rol (l : List D) | dK (kvs : List (Key × D)) | ins (c : Str) (fs : List (Str × D)) | dN (kvs : List (NestedKey × D)) | fK (kvs : List (Key × D)) | dT (kvs : List (D × D)) | fT (kvs : List (D × D))
deriving DecidableEq

abbrev MH := List MO
abbrev Slots := List (Option D)

inductive R (α : Type) where
  | ok (a : α) (h : MH) | exc (x : Str) (fs : List (Str × D)) (h : MH) | bad

def R.bind {α β : Type} (r : R α) (f : α → MH → R β) : R β := match r with
  | .ok a h => f a h
  | .exc x fs h => .exc x fs h
  | .bad => .bad
/-- the written part, the classes by name -/
structure G where
  K : PySem.W.Frag
  cm : Str → Option Addr
  w : World

/-! ### values and the heap -/
/-- a tuple that is known to the object: it has no dict of its own -/
def Tk (K : PySem.W.Frag) (H : Hp) (p : Addr) (xs : List V) : Prop :=
  (∃ ob : Obj, ob.dict = none ∧ H p = some (.frz ob (.tup xs))) ∨ ∃ (ob : Obj) (ws : Array Value) (n : Nat), K.lookup p = some ob ∧ ob.cls = .type "tuple" ∧ ob.dict = none ∧ ob.data = .seq ws n ∧ ws.size ≤ sizeLine ∧ Vals xs ws.toList
theorem Tk.sq {K : PySem.W.Frag} {H : Hp} {p : Addr} {xs : List V} (h : Tk K H p xs) : SqT K H p xs := by
  rcases h with ⟨ob, _, h⟩ | ⟨ob, ws, n, h1, h2, _, h3⟩
  · exact .inl (.inr ⟨ob, h⟩)
  · exact .inr ⟨ob, ws, n, h1, h2, h3⟩
/-- an exception that is kept: its class, its dict -/
def XOk (C : Addr) (d : Option Addr) (a : Addr) : HO := .ext fun h => ∃ (oe : Obj) (vs : Array Value), h.get? a = some oe ∧ Zc (.ref C) d oe ∧ oe.data = .fields vs
def isX (p : Addr) (u : HO) : Prop := (∃ C d, u = XOk C d p) ∨ ∃ fs, u = .xd fs
mutual
inductive VR (g : G) (H : Hp) (μ : List Addr) : V → D → Prop
  | non : VR g H μ .non .non
  | bl (b : Bool) : VR g H μ (.bl b) (.bl b)
  | int (i : Int) : VR g H μ (.int i) (.int i)
  | str (x : Str) : VR g H μ (.str x) (.str x)
  | ref {p : Addr} {i : Nat} : μ[i]? = some p → VR g H μ (.ref p) (.ref i)
  | tup {p : Addr} {xs : List V} {ds : List D} : Tk g.K H p xs → VRs g H μ xs ds → VR g H μ (.ref p) (.tup ds)
  | xo {p C : Addr} {d : Option Addr} {c f : Str} {v : V} {dv : D} : H p = some (XOk C d p) → g.cm c = some C → ((f = Str.ofString "" ∧ d = none) ∨ ∃ dd fv, d = some dd ∧ H dd = some (.xd fv) ∧ fv.lookup f = some v) → VR g H μ v dv → VR g H μ (.ref p) (.xo c f dv)
inductive VRs (g : G) (H : Hp) (μ : List Addr) : List V → List D → Prop
  | nil : VRs g H μ [] []
  | cons {v : V} {d : D} {vs : List V} {ds : List D} : VR g H μ v d → VRs g H μ vs ds → VRs g H μ (v :: vs) (d :: ds)
end
mutual
/-- a thing as a key -/
def nkD : D → Option NestedKey
  | .non => some .none
  | .bl b => some (.num (if b = true then 1 else 0))
  | .int i => some (.num i)
  | .str x => some (.text x)
  | .tup l => (nkDs l).map NestedKey.tup
  | .ref _ => none
  | .xo _ _ _ => none
def nkDs : List D → Option (List NestedKey)
  | [] => some []
  | d :: l => match nkD d, nkDs l with
    | some k, some ks => some (k :: ks)
    | _, _ => none
end
/-- a dict whose keys are tuples -/
def DN (w : World) (a : Addr) (xs : List (NestedKey × Addr × Value)) : HO := .ext fun h => xs.length ≤ sizeLine ∧ (a == sysModules) = false ∧ ∃ o es ep, h.get? a = some o ∧ o.ExactDict ∧ o.data = .dict es ep ∧ es.toList = xs.map (fun x => ⟨x.1.hash w, .ref x.2.1, x.2.2⟩) ∧ (xs.map (·.1)).Nodup
inductive NR (g : G) (H : Hp) (μ : List Addr) : List (NestedKey × Addr × Value) → List (NestedKey × D) → Prop
  | nil : NR g H μ [] []
  | cons {k : NestedKey} {a : Addr} {u : Value} {e d : D} {v : V} {xs : List (NestedKey × Addr × Value)} {ds : List (NestedKey × D)} : VR g H μ (.ref a) e → nkD e = some k → k.depth ≤ 8 → RelV v u → VR g H μ v d → NR g H μ xs ds → NR g H μ ((k, a, u) :: xs) ((k, d) :: ds)
/-- a dict with tuple keys whose key objects are known -/
inductive TR (g : G) (H : Hp) (μ : List Addr) : List (NestedKey × Addr × Value) → List (D × D) → Prop
  | nil : TR g H μ [] []
  | cons {k : NestedKey} {a : Addr} {u : Value} {e d : D} {v : V} {xs : List (NestedKey × Addr × Value)} {ds : List (D × D)} : VR g H μ (.ref a) e → nkD e = some k → k.depth ≤ 8 → RelV v u → VR g H μ v d → TR g H μ xs ds → TR g H μ ((k, a, u) :: xs) ((e, d) :: ds)
inductive KR {κ : Type} (g : G) (H : Hp) (μ : List Addr) : List (κ × V) → List (κ × D) → Prop
  | nil : KR g H μ [] []
  | cons {k : κ} {v : V} {d : D} {vs : List (κ × V)} {ds : List (κ × D)} : VR g H μ v d → KR g H μ vs ds → KR g H μ ((k, v) :: vs) ((k, d) :: ds)
inductive SR (g : G) (H : Hp) (μ : List Addr) : List (Option V) → Slots → Prop
  | nil : SR g H μ [] []
  | no {o : Option V} {σ : List (Option V)} {ρ : Slots} : SR g H μ σ ρ → SR g H μ (o :: σ) (none :: ρ)
  | yes {v : V} {d : D} {σ : List (Option V)} {ρ : Slots} : VR g H μ v d → SR g H μ σ ρ → SR g H μ (some v :: σ) (some d :: ρ)

/-- a list that is only read -/
def Lk (K : PySem.W.Frag) (H : Hp) (a : Addr) (xs : List V) : Prop :=
  (∃ o, H a = some (.frz o (.lst xs))) ∨ ∃ (o : Obj) (its : Array Value) (n : Nat), K.lookup a = some o ∧ o.cls = .type "list" ∧ o.dict = none ∧ o.data = .seq its n ∧ its.size ≤ sizeLine ∧ Vals xs its.toList
theorem Lk.sq {K : PySem.W.Frag} {H : Hp} {a : Addr} {xs : List V} (h : Lk K H a xs) : SqL K H a xs := by
  rcases h with ⟨o, h⟩ | h
  · exact .inl (.inr ⟨o, h⟩)
  · exact .inr h

def OR (g : G) (H : Hp) (μ : List Addr) (p : Addr) : MO → Prop
  | .lst ds => ∃ xs, H p = some (.lst xs) ∧ VRs g H μ xs ds
  | .rol ds => ∃ xs, Lk g.K H p xs ∧ VRs g H μ xs ds
  | .dK kvs => ∃ kv, H p = some (.dK kv) ∧ KR g H μ kv kvs
  | .ins c fs => ∃ C dx fv, H p = some (.ins C dx fv) ∧ g.cm c = some C ∧ KR g H μ fv fs
  | .dN kvs => ∃ xs, H p = some (DN g.w p xs) ∧ NR g H μ xs kvs
  | .fK kvs => ∃ o kv, H p = some (.frz o (.dK kv)) ∧ KR g H μ kv kvs
  | .dT kvs => ∃ xs, H p = some (DN g.w p xs) ∧ TR g H μ xs kvs
  | .fT kvs => ∃ o xs, H p = some (.frz o (DN g.w p xs)) ∧ TR g H μ xs kvs
def isMut : MO → Bool
  | .rol _ => false
  | _ => true
structure HR (g : G) (H : Hp) (μ : List Addr) (h : MH) : Prop where
  len : μ.length = h.length
  ob : ∀ (i : Nat) (p : Addr) (o : MO), μ[i]? = some p → h[i]? = some o → OR g H μ p o
  nd : ∀ (i j : Nat) (p : Addr) (o u : MO), μ[i]? = some p → μ[j]? = some p → h[i]? = some o → h[j]? = some u → isMut o = true → isMut u = true → i = j

/-- what stands stands on: the tuples, the numbering -/
structure Mon (g : G) (H H' : Hp) (μ μ' : List Addr) : Prop where
  pre : μ <+: μ'
  tups : ∀ p xs, Tk g.K H p xs → Tk g.K H' p xs
  xs : ∀ p u, isX p u → H p = some u → H' p = some u
  fz : ∀ p w v, H p = some (.frz w v) → H' p = some (.frz w v)
section
variable {g : G} {H H1 H2 : Hp} {μ μ1 μ2 : List Addr}
theorem Mon.refl : Mon g H H μ μ := ⟨List.prefix_rfl, fun _ _ h => h, fun _ _ _ h => h, fun _ _ _ h => h⟩
theorem Mon.trans (a : Mon g H H1 μ μ1) (b : Mon g H1 H2 μ1 μ2) : Mon g H H2 μ μ2 := ⟨a.pre.trans b.pre, fun p xs h => b.tups p xs (a.tups p xs h), fun p u x h => b.xs p u x (a.xs p u x h), fun p w v h => b.fz p w v (a.fz p w v h)⟩
theorem Mon.ix (m : Mon g H H1 μ μ1) {i : Nat} {p : Addr} (h : μ[i]? = some p) : μ1[i]? = some p := by
  obtain ⟨t, rfl⟩ := m.pre
  rw [List.getElem?_append_left (List.getElem?_eq_some_iff.mp h).1]
  exact h
mutual
theorem VR.mono (m : Mon g H H1 μ μ1) : ∀ {v : V} {d : D}, VR g H μ v d → VR g H1 μ1 v d
  | _, _, .non => .non
  | _, _, .bl b => .bl b
  | _, _, .int i => .int i
  | _, _, .str x => .str x
  | _, _, .ref h => .ref (m.ix h)
  | _, _, .tup h hs => .tup (m.tups _ _ h) (VRs.mono m hs)
  | _, _, .xo h c f v => .xo (m.xs _ _ (.inl ⟨_, _, rfl⟩) h) c (by
      rcases f with f | ⟨dd, fv, e1, e2, e3⟩
      · exact .inl f
      · exact .inr ⟨dd, fv, e1, m.xs _ _ (.inr ⟨_, rfl⟩) e2, e3⟩) (VR.mono m v)
theorem VRs.mono (m : Mon g H H1 μ μ1) : ∀ {vs : List V} {ds : List D}, VRs g H μ vs ds → VRs g H1 μ1 vs ds
  | _, _, .nil => .nil
  | _, _, .cons a b => .cons (VR.mono m a) (VRs.mono m b)
end
theorem KR.mono {κ : Type} (m : Mon g H H1 μ μ1) : ∀ {vs : List (κ × V)} {ds : List (κ × D)}, KR g H μ vs ds → KR g H1 μ1 vs ds
  | _, _, .nil => .nil
  | _, _, .cons a b => .cons (a.mono m) (KR.mono m b)
theorem NR.mono (m : Mon g H H1 μ μ1) : ∀ {xs : List (NestedKey × Addr × Value)} {ds : List (NestedKey × D)}, NR g H μ xs ds → NR g H1 μ1 xs ds
  | _, _, .nil => .nil
  | _, _, .cons a e l r v b => .cons (a.mono m) e l r (v.mono m) (NR.mono m b)
theorem TR.mono (m : Mon g H H1 μ μ1) : ∀ {xs : List (NestedKey × Addr × Value)} {ds : List (D × D)}, TR g H μ xs ds → TR g H1 μ1 xs ds
  | _, _, .nil => .nil
  | _, _, .cons a e l r v b => .cons (a.mono m) e l r (v.mono m) (TR.mono m b)
theorem SR.mono (m : Mon g H H1 μ μ1) : ∀ {σ : List (Option V)} {ρ : Slots}, SR g H μ σ ρ → SR g H1 μ1 σ ρ
  | _, _, .nil => .nil
  | _, _, .no b => .no (SR.mono m b)
  | _, _, .yes a b => .yes (a.mono m) (SR.mono m b)
theorem VRs.length : ∀ {vs : List V} {ds : List D}, VRs g H μ vs ds → vs.length = ds.length
  | _, _, .nil => rfl
  | _, _, .cons _ b => by rw [List.length_cons, List.length_cons, VRs.length b]
theorem VRs.get : ∀ {vs : List V} {ds : List D} {i : Nat} {d : D}, VRs g H μ vs ds → ds[i]? = some d → ∃ v, vs[i]? = some v ∧ VR g H μ v d
  | _, _, _, _, .nil, e => by simp at e
  | _, _, 0, _, .cons a _, e => by
    simp only [List.getElem?_cons_zero, Option.some.injEq] at e
    subst e
    exact ⟨_, rfl, a⟩
  | _, _, i + 1, _, .cons _ b, e => by
    obtain ⟨v, h1, h2⟩ := VRs.get (i := i) b (by simpa using e)
    exact ⟨v, by simpa using h1, h2⟩
theorem VRs.append : ∀ {vs ws : List V} {ds es : List D}, VRs g H μ vs ds → VRs g H μ ws es → VRs g H μ (vs ++ ws) (ds ++ es)
  | _, _, _, _, .nil, h => h
  | _, _, _, _, .cons a b, h => .cons a (VRs.append b h)
theorem VRs.take (n : Nat) : ∀ {vs : List V} {ds : List D}, VRs g H μ vs ds → VRs g H μ (vs.take n) (ds.take n) := by
  induction n with
  | zero => intro vs ds _; simp only [List.take_zero]; exact .nil
  | succ n ih =>
    intro vs ds h
    cases h with
    | nil => simp only [List.take_nil]; exact .nil
    | cons a b => simp only [List.take_succ_cons]; exact .cons a (ih b)
theorem VRs.drop (n : Nat) : ∀ {vs : List V} {ds : List D}, VRs g H μ vs ds → VRs g H μ (vs.drop n) (ds.drop n) := by
  induction n with
  | zero => intro vs ds h; exact h
  | succ n ih =>
    intro vs ds h
    cases h with
    | nil => simp only [List.drop_nil]; exact .nil
    | cons a b => simp only [List.drop_succ_cons]; exact ih b
theorem VRs.set (i : Nat) {v : V} {d : D} (r : VR g H μ v d) : ∀ {vs : List V} {ds : List D}, VRs g H μ vs ds → VRs g H μ (vs.set i v) (ds.set i d) := by
  induction i with
  | zero =>
    intro vs ds h
    cases h with
    | nil => exact .nil
    | cons a b => exact .cons r b
  | succ n ih =>
    intro vs ds h
    cases h with
    | nil => exact .nil
    | cons a b => exact .cons a (ih b)
theorem VRs.reverse : ∀ {vs : List V} {ds : List D}, VRs g H μ vs ds → VRs g H μ vs.reverse ds.reverse
  | _, _, .nil => .nil
  | _, _, .cons a b => by
    rw [List.reverse_cons, List.reverse_cons]
    exact (VRs.reverse b).append (.cons a .nil)
theorem VRs.dropLast : ∀ {vs : List V} {ds : List D}, VRs g H μ vs ds → VRs g H μ vs.dropLast ds.dropLast
  | _, _, .nil => .nil
  | _, _, .cons a .nil => .nil
  | _, _, .cons a (.cons b c) => .cons a (VRs.dropLast (.cons b c))
theorem VRs.one {v : V} {d : D} (a : VR g H μ v d) : VRs g H μ [v] [d] := .cons a .nil
theorem SR.get : ∀ {σ : List (Option V)} {ρ : Slots} {i : Nat} {d : D}, SR g H μ σ ρ → ρ[i]? = some (some d) → ∃ v, σ[i]? = some (some v) ∧ VR g H μ v d
  | _, _, _, _, .nil, e => by simp at e
  | _, _, 0, _, .no _, e => by simp at e
  | _, _, 0, _, .yes a _, e => by
    simp only [List.getElem?_cons_zero, Option.some.injEq] at e
    subst e
    exact ⟨_, rfl, a⟩
  | _, _, i + 1, _, .no b, e => by
    obtain ⟨v, h1, h2⟩ := SR.get (i := i) b (by simpa using e)
    exact ⟨v, by simpa using h1, h2⟩
  | _, _, i + 1, _, .yes _ b, e => by
    obtain ⟨v, h1, h2⟩ := SR.get (i := i) b (by simpa using e)
    exact ⟨v, by simpa using h1, h2⟩
theorem SR.set (i : Nat) {v : V} {d : D} (r : VR g H μ v d) : ∀ {σ : List (Option V)} {ρ : Slots}, SR g H μ σ ρ → SR g H μ (σ.set i (some v)) (ρ.set i (some d)) := by
  induction i with
  | zero =>
    intro σ ρ h
    cases h with
    | nil => exact .nil
    | no b => exact .yes r b
    | yes a b => exact .yes r b
  | succ n ih =>
    intro σ ρ h
    cases h with
    | nil => exact .nil
    | no b => exact .no (ih b)
    | yes a b => exact .yes a (ih b)
theorem SR.unset (i : Nat) (o : Option V) : ∀ {σ : List (Option V)} {ρ : Slots}, SR g H μ σ ρ → SR g H μ (σ.set i o) (ρ.set i none) := by
  induction i with
  | zero =>
    intro σ ρ h
    cases h with
    | nil => exact .nil
    | no b => exact .no b
    | yes a b => exact .no b
  | succ n ih =>
    intro σ ρ h
    cases h with
    | nil => exact .nil
    | no b => exact .no (ih b)
    | yes a b => exact .yes a (ih b)
theorem SR.start : ∀ {vs : List V} {ds : List D} (n : Nat), VRs g H μ vs ds → SR g H μ (vs.map some ++ List.replicate n none) (ds.map some ++ List.replicate n none)
  | _, _, n, .nil => by
    show SR g H μ (List.replicate n none) (List.replicate n none)
    induction n with
    | zero => exact .nil
    | succ n ih => rw [List.replicate_succ]; exact .no ih
  | _, _, n, .cons a b => .yes a (SR.start n b)

/-! ### the heap changes -/
/-- a place that may be written: neither a tuple's nor a locked thing's -/
def Saf (H : Hp) (p : Addr) : Prop := ∀ u, H p = some u → ((∀ xs, u ≠ .tup xs) ∧ ¬ isX p u) ∧ ∀ o v, u ≠ .frz o v
theorem Saf.fresh {p : Addr} (h : H p = none) : Saf H p := fun u e => by rw [h] at e; cases e
theorem Saf.lst {p : Addr} {xs : List V} (h : H p = some (.lst xs)) : Saf H p := fun u e => by
  rw [h] at e
  cases e
  exact ⟨⟨fun _ z => (nomatch z), fun z => by rcases z with ⟨_, _, z⟩ | ⟨_, z⟩ <;> exact nomatch z⟩, fun _ _ z => (nomatch z)⟩
theorem Saf.dK {p : Addr} {xs : List (Key × V)} (h : H p = some (.dK xs)) : Saf H p := fun u e => by
  rw [h] at e
  cases e
  exact ⟨⟨fun _ z => (nomatch z), fun z => by rcases z with ⟨_, _, z⟩ | ⟨_, z⟩ <;> exact nomatch z⟩, fun _ _ z => (nomatch z)⟩
theorem Saf.ins {p C dx : Addr} {xs : List (Str × V)} (h : H p = some (.ins C dx xs)) : Saf H p := fun u e => by
  rw [h] at e
  cases e
  exact ⟨⟨fun _ z => (nomatch z), fun z => by rcases z with ⟨_, _, z⟩ | ⟨_, z⟩ <;> exact nomatch z⟩, fun _ _ z => (nomatch z)⟩
theorem dn_ne {w : World} {p C : Addr} {d : Option Addr} {xs : List (NestedKey × Addr × Value)} : DN w p xs ≠ XOk C d p := fun z => by
  unfold DN XOk at z
  injection z with z
  have hh : ∃ h : Heap, ∃ (oe : Obj) (vs : Array Value), h.get? p = some oe ∧ Zc (.ref C) d oe ∧ oe.data = .fields vs := by
    refine ⟨{ objs := Array.replicate (p + 1) { cls := .ref C, dict := d, data := .fields #[] } }, { cls := .ref C, dict := d, data := .fields #[] }, #[], ?_, ?_, rfl⟩
    · simp [Heap.get?]
    · exact ⟨rfl, rfl⟩
  obtain ⟨h, oe, vs, h1, h2, h3⟩ := hh
  have z2 := congrFun z h
  obtain ⟨_, _, o, es, ep, e1, _, e3, _⟩ := z2.mpr ⟨oe, vs, h1, h2, h3⟩
  rw [h1] at e1
  cases e1
  rw [h3] at e3
  cases e3
theorem Saf.dN {p : Addr} {w : World} {xs : List (NestedKey × Addr × Value)} (h : H p = some (DN w p xs)) : Saf H p := fun u e => by
  rw [h] at e
  cases e
  exact ⟨⟨fun _ z => (nomatch z), fun z => by
    rcases z with ⟨_, _, z⟩ | ⟨_, z⟩
    · exact dn_ne z
    · exact nomatch z⟩, fun _ _ z => (nomatch z)⟩
theorem Saf.mon {p : Addr} {o : HO} (s : Saf H p) : Mon g H (upd H p o) μ μ := ⟨List.prefix_rfl, fun q xs h => by
  rcases h with ⟨u, hu, h⟩ | h
  · refine .inl ⟨u, hu, ?_⟩
    rw [upd_ne]
    · exact h
    · rintro rfl; exact (s _ h).2 u _ rfl
  · exact .inr h, fun q u x h => by
    rw [upd_ne]
    · exact h
    · rintro rfl; exact (s _ h).1.2 x, fun q w v h => by
    rw [upd_ne]
    · exact h
    · rintro rfl; exact (s _ h).2 w v rfl⟩
theorem OR.mono_at {p : Addr} {o : MO} (m : Mon g H H1 μ μ1) (k : ∀ u, H p = some u → H1 p = some u) (h : OR g H μ p o) : OR g H1 μ1 p o := by
  cases o with
  | lst ds => obtain ⟨xs, a, b⟩ := h; exact ⟨xs, k _ a, b.mono m⟩
  | rol ds =>
    obtain ⟨xs, a, b⟩ := h
    refine ⟨xs, ?_, b.mono m⟩
    rcases a with ⟨u, a⟩ | a
    · exact .inl ⟨u, k _ a⟩
    · exact .inr a
  | dK kvs => obtain ⟨xs, a, b⟩ := h; exact ⟨xs, k _ a, b.mono m⟩
  | ins c fs => obtain ⟨C, dx, xs, a, c', b⟩ := h; exact ⟨C, dx, xs, k _ a, c', b.mono m⟩
  | dN kvs => obtain ⟨xs, a, b⟩ := h; exact ⟨xs, k _ a, b.mono m⟩
  | fK kvs => obtain ⟨u, xs, a, b⟩ := h; exact ⟨u, xs, k _ a, b.mono m⟩
  | dT kvs => obtain ⟨xs, a, b⟩ := h; exact ⟨xs, k _ a, b.mono m⟩
  | fT kvs => obtain ⟨u, xs, a, b⟩ := h; exact ⟨u, xs, k _ a, b.mono m⟩
theorem OR.mut {p : Addr} {o : MO} (h : OR g H μ p o) (hm : isMut o = true) : ∃ u, H p = some u := by
  cases o with
  | lst ds => obtain ⟨xs, a, b⟩ := h; exact ⟨_, a⟩
  | rol ds => cases hm
  | dK kvs => obtain ⟨xs, a, b⟩ := h; exact ⟨_, a⟩
  | ins c fs => obtain ⟨C, dx, xs, a, c', b⟩ := h; exact ⟨_, a⟩
  | dN kvs => obtain ⟨xs, a, b⟩ := h; exact ⟨_, a⟩
  | fK kvs => obtain ⟨u, xs, a, b⟩ := h; exact ⟨_, a⟩
  | dT kvs => obtain ⟨xs, a, b⟩ := h; exact ⟨_, a⟩
  | fT kvs => obtain ⟨u, xs, a, b⟩ := h; exact ⟨_, a⟩
/-- a new thing is laid that is no cell of h -/
theorem HR.laid {h : MH} {p : Addr} {o : HO} (r : HR g H μ h) (hp : H p = none) : HR g (upd H p o) μ h :=
  ⟨r.len, fun i q u hi hu => (r.ob i q u hi hu).mono_at (Saf.fresh hp).mon fun w e => by rw [upd_ne (ne_of_none e hp)]; exact e, r.nd⟩
/-- a new cell -/
theorem HR.push {h : MH} {p : Addr} {o : HO} {u : MO} (r : HR g H μ h) (hp : H p = none) (hu : OR g (upd H p o) (μ ++ [p]) p u) : HR g (upd H p o) (μ ++ [p]) (h ++ [u]) := by
  have m : Mon g H (upd H p o) μ (μ ++ [p]) := ⟨List.prefix_append _ _, (Saf.fresh hp : Saf H p).mon (g := g) (μ := μ) (o := o) |>.tups, (Saf.fresh hp : Saf H p).mon (g := g) (μ := μ) (o := o) |>.xs, (Saf.fresh hp : Saf H p).mon (g := g) (μ := μ) (o := o) |>.fz⟩
  have key : ∀ (i : Nat) (q : Addr), (μ ++ [p])[i]? = some q → (i < μ.length ∧ μ[i]? = some q) ∨ (i = μ.length ∧ q = p) := fun i q e => by
    by_cases hi : i < μ.length
    · rw [List.getElem?_append_left hi] at e; exact .inl ⟨hi, e⟩
    · rw [List.getElem?_append_right (by omega)] at e
      have : i - μ.length = 0 := by
        have := (List.getElem?_eq_some_iff.mp e).1
        simp at this; omega
      rw [this] at e
      simp at e
      exact .inr ⟨by omega, e.symm⟩
  have keyh : ∀ (i : Nat) (w : MO), (h ++ [u])[i]? = some w → (i < h.length ∧ h[i]? = some w) ∨ (i = h.length ∧ w = u) := fun i w e => by
    by_cases hi : i < h.length
    · rw [List.getElem?_append_left hi] at e; exact .inl ⟨hi, e⟩
    · rw [List.getElem?_append_right (by omega)] at e
      have : i - h.length = 0 := by
        have := (List.getElem?_eq_some_iff.mp e).1
        simp at this; omega
      rw [this] at e
      simp at e
      exact .inr ⟨by omega, e.symm⟩
  have l := r.len
  refine ⟨by simp [l], fun i q w hi hw => ?_, fun i j q w v hi hj hw hv m1 m2 => ?_⟩
  · rcases key i q hi with ⟨a, b⟩ | ⟨a, b⟩
    · rcases keyh i w hw with ⟨c, d⟩ | ⟨c, d⟩
      · exact (r.ob i q w b d).mono_at m fun x e => by rw [upd_ne (ne_of_none e hp)]; exact e
      · omega
    · rcases keyh i w hw with ⟨c, d⟩ | ⟨c, d⟩
      · omega
      · subst b d; exact hu
  · rcases key i q hi with ⟨a, b⟩ | ⟨a, b⟩ <;> rcases key j q hj with ⟨a', b'⟩ | ⟨a', b'⟩
    · rcases keyh i w hw with ⟨c, d⟩ | ⟨c, d⟩
      · rcases keyh j v hv with ⟨c', d'⟩ | ⟨c', d'⟩
        · exact r.nd i j q w v b b' d d' m1 m2
        · omega
      · omega
    · rcases keyh i w hw with ⟨c, d⟩ | ⟨c, d⟩
      · obtain ⟨x, e⟩ := (r.ob i q w b d).mut m1
        subst b'
        rw [hp] at e; cases e
      · omega
    · rcases keyh j v hv with ⟨c, d⟩ | ⟨c, d⟩
      · obtain ⟨x, e⟩ := (r.ob j q v b' d).mut m2
        subst b
        rw [hp] at e; cases e
      · omega
    · omega
/-- a cell is written -/
theorem HR.write {h : MH} {i : Nat} {p : Addr} {o : HO} {u w : MO} (r : HR g H μ h) (hi : μ[i]? = some p) (hw : h[i]? = some w) (mw : isMut w = true) (s : Saf H p) (mu : isMut u = true) (hu : OR g (upd H p o) μ p u) : HR g (upd H p o) μ (h.set i u) := by
  have m : Mon g H (upd H p o) μ μ := s.mon
  have hlt : i < h.length := (List.getElem?_eq_some_iff.mp hw).1
  refine ⟨by rw [List.length_set]; exact r.len, fun j q v hj hv => ?_, fun j k q v x hj hk hv hx m1 m2 => ?_⟩
  · by_cases e : i = j
    · subst e
      rw [List.getElem?_set_self hlt] at hv
      rw [hi] at hj
      cases hj; cases hv
      exact hu
    · rw [List.getElem?_set_ne e] at hv
      have old := r.ob j q v hj hv
      cases mv : isMut v with
      | true =>
        refine old.mono_at m fun x ex => ?_
        rw [upd_ne]
        · exact ex
        · rintro rfl; exact e (r.nd i j q w v hi hj hw hv mw mv)
      | false =>
        cases v with
        | rol ds =>
          obtain ⟨xs, a, b⟩ := old
          refine ⟨xs, ?_, b.mono m⟩
          rcases a with ⟨u', a⟩ | a
          · refine .inl ⟨u', ?_⟩
            rw [upd_ne]
            · exact a
            · rintro rfl; exact (s _ a).2 _ _ rfl
          · exact .inr a
        | lst ds => cases mv
        | dK kvs => cases mv
        | ins c fs => cases mv
        | dN kvs => cases mv
        | fK kvs => cases mv
        | dT kvs => cases mv
        | fT kvs => cases mv
  · have key : ∀ (j : Nat) (v : MO), (h.set i u)[j]? = some v → isMut v = true → ∃ v', h[j]? = some v' ∧ isMut v' = true := fun j v hv mv => by
      by_cases e : i = j
      · subst e; exact ⟨w, hw, mw⟩
      · rw [List.getElem?_set_ne e] at hv; exact ⟨v, hv, mv⟩
    obtain ⟨v', hv', mv'⟩ := key j v hv m1
    obtain ⟨x', hx', mx'⟩ := key k x hx m2
    exact r.nd j k q v' x' hj hk hv' hx' mv' mx'
end

/-! ### rules that lay tuples, the new one known to the object -/
section
variable {X : Cx} {es : List Expr} {t : TA} {pos : Pos}
def tTupF (t : TA) : TE := fun σ H Q => t σ H fun xs H1 => xs.length ≤ sizeLine ∧ ∀ (p : Addr) (ob : Obj), H1 p = none → ob.dict = none → Q (.ref p) (upd H1 p (.frz ob (.tup xs)))
theorem pe_tupF {x1} (h : PA X es t) : PE X (.Tuple es x1 pos) (tTupF t) := by
  refine ⟨fun pins s σ H Q I hq => ?_⟩
  refine wpAny_Tuple_spliced (thn (h.run pos pins s σ H _ I hq) fun us s1 ⟨xs, H1, I1, rv, zl, q⟩ => ⟨by rw [← rv.length]; exact zl, ?_⟩)
  have new : H1 s1.heap.objs.size = none := I1.hok.fresh (Nat.le_refl _)
  refine ⟨.ref s1.heap.objs.size, upd H1 s1.heap.objs.size (.frz { cls := .type "tuple", data := .seq us.toArray } (.tup xs)), I1.laid (t' := s1.toks) (fun b u e => Heap.get?_push_of_some _ e) (Nat.le_refl _) ?_, rfl, q _ _ new rfl⟩
  exact ⟨Heap.get?_push_size _ rfl, zl, us, rv, PyProof.Rows.IsTup.new _ _⟩
def rTupF (K : PySem.W.Frag) : List V → Hp → VK → Prop := fun xs H Q => ∃ p ys, xs = [.ref p] ∧ ((SqL K H p ys ∧ ∀ (l : Addr) (ob : Obj), H l = none → ob.dict = none → Q (.ref l) (upd H l (.frz ob (.tup ys)))) ∨ (SqT K H p ys ∧ Q (.ref p) H))
theorem call_tupF : CallR X (.type "tuple") (rTupF X.K) := by
  intro pins s σ H xs us Q I rr hh
  obtain ⟨p, ys, rfl, hh⟩ := hh
  rcases hh with ⟨hq, q⟩ | ⟨hq, q⟩
  · obtain ⟨u, rfl, rx⟩ := vals1 rr
    cases rx
    obtain ⟨its, rv, pl, zl⟩ := I.list hq
    have hlen := rv.length
    refine PySem.call_tuple_list pl.isList (fun h' kp => ?_) (by simp only [List.size_toArray]; omega)
    have I1 : Inv X pins σ H { s with heap := h' } := I.kept (t' := s.toks) kp
    refine ⟨.ref h'.objs.size, upd H h'.objs.size (.frz { cls := .type "tuple", data := .seq its.toArray } (.tup ys)), ?_, rfl, q _ _ (I1.hok.fresh (Nat.le_refl _)) rfl⟩
    exact I1.laid (t' := s.toks) (fun b o e => Heap.get?_push_of_some _ e) (Nat.le_refl _) ⟨Heap.get?_push_size _ rfl, zl, its, rv, PyProof.Rows.IsTup.new _ _⟩
  · exact call_tuple_of pins s σ H _ us Q I rr ⟨p, ys, rfl, .inr ⟨hq, q⟩⟩
def rCatF (K : PySem.W.Frag) : R2 := fun x y H Q => ∃ a b xs ys, x = .ref a ∧ y = .ref b ∧ SqT K H a xs ∧ SqT K H b ys ∧ xs.length + ys.length ≤ sizeLine ∧
  (xs = [] → Q (.ref b) H) ∧ (xs ≠ [] → ys = [] → Q (.ref a) H) ∧ (xs ≠ [] → ys ≠ [] → ∀ (p : Addr) (ob : Obj), H p = none → ob.dict = none → Q (.ref p) (upd H p (.frz ob (.tup (xs ++ ys)))))
theorem op_catF : OpR X (binaryOp .Add) (rCatF X.K) := by
  intro pins s σ H x y v u Q I rx ry hh
  obtain ⟨a, b, xs, ys, rfl, rfl, ha, hb, zl, q0, q1, q2⟩ := hh
  cases rx
  cases ry
  obtain ⟨ws1, r1, p1, _⟩ := I.tuple ha
  obtain ⟨ws2, r2, p2, _⟩ := I.tuple hb
  by_cases hx : xs = []
  · subst hx
    cases r1
    exact cat_tup0 p1 p2 ⟨.ref b, H, I, rfl, q0 rfl⟩
  · refine HT.cat_tup p1 p2 (fun z => hx (r1.nil_iff.mp z)) (fun z => ⟨.ref a, H, I, rfl, q1 hx (r2.nil_iff.mp z)⟩) (fun z => ?_) (by rw [← r1.length, ← r2.length]; exact zl)
    refine ⟨.ref s.heap.objs.size, upd H s.heap.objs.size (.frz { cls := .type "tuple", data := .seq (ws1 ++ ws2).toArray } (.tup (xs ++ ys))), ?_, rfl, q2 hx (fun w => z (r2.nil_iff.mpr w)) _ _ (I.hok.fresh (Nat.le_refl _)) rfl⟩
    exact I.laid (t' := s.toks) (fun b ob e => Heap.get?_push_of_some _ e) (Nat.le_refl _) ⟨Heap.get?_push_size _ rfl, by rw [List.length_append]; exact zl, _, r1.append r2, PyProof.Rows.IsTup.new _ _⟩
def rSlF (K : PySem.W.Frag) : V → Option Int → Option Int → Hp → VK → Prop := fun x lo hi H Q => ∃ a xs, x = .ref a ∧ SqT K H a xs ∧
  (HT.sIx xs.length 0 lo = 0 ∧ HT.sIx xs.length xs.length hi = xs.length → Q (.ref a) H) ∧ (¬ (HT.sIx xs.length 0 lo = 0 ∧ HT.sIx xs.length xs.length hi = xs.length) → ∀ (p : Addr) (ob : Obj), H p = none → ob.dict = none → Q (.ref p) (upd H p (.frz ob (.tup (cutV xs lo hi)))))
theorem sl_tupF : SlR X (rSlF X.K) := by
  intro pins s σ H x v vl vu lo hi sl Q I rx hs pl pu hh
  obtain ⟨a, xs, rfl, hx, q1, q2⟩ := hh
  by_cases hw : HT.sIx xs.length 0 lo = 0 ∧ HT.sIx xs.length xs.length hi = xs.length
  · exact sl_tupA pins s σ H _ v vl vu lo hi sl Q I rx hs pl pu ⟨a, xs, rfl, hx, q1, fun z => absurd hw z⟩
  · cases rx
    obtain ⟨ws, rv, ht, zl⟩ := I.tuple hx
    have el : ws.toArray.size = xs.length := by rw [List.size_toArray]; exact rv.length.symm
    refine ⟨"tuple", _, PyProof.Rows.slot_tuple_getitem.lookup, ht.typeIs, ?_⟩
    refine HT.getItem_tuple_cut ht hs pl pu (by rw [el]; exact hw) ?_ (by rw [el]; exact zl)
    rw [el]
    refine ⟨.ref s.heap.objs.size, upd H s.heap.objs.size (.frz { cls := .type "tuple", data := .seq ((ws.drop (HT.sIx xs.length 0 lo)).take (HT.sIx xs.length xs.length hi - HT.sIx xs.length 0 lo)).toArray } (.tup (cutV xs lo hi))), ?_, rfl, q2 hw _ _ (I.hok.fresh (Nat.le_refl _)) rfl⟩
    exact I.laid (t' := s.toks) (fun b ob e => Heap.get?_push_of_some _ e) (Nat.le_refl _) ⟨Heap.get?_push_size _ rfl, Nat.le_trans (cutV_length xs lo hi) zl, _, (rv.drop _).take _, PyProof.Rows.IsTup.new _ _⟩
end
end Mi
namespace Mi
open PySem L2

/-! ### what is wanted behind -/
/-- an exception of the class named x with these fields -/
def XR (g : G) (H : Hp) (μ : List Addr) (cls : Value) (d : Option Addr) (x : Str) (fs : List (Str × D)) : Prop :=
  ∃ C, cls = .ref C ∧ g.cm x = some C ∧ ((fs = [] ∧ d = none) ∨ ∃ dd fv, fs ≠ [] ∧ d = some dd ∧ H dd = some (.xd fv) ∧ KR g H μ fv fs)
def Bk {α β : Type} (rel : Hp → List Addr → β → α → Prop) (g : G) (H : Hp) (μ : List Addr) (r : R α) (Q : β → Hp → Prop) (W : XK) : Prop := match r with
  | .ok a h' => ∀ b H' μ', Mon g H H' μ μ' → HR g H' μ' h' → rel H' μ' b a → Q b H'
  | .exc x fs h' => ∀ cls d H' μ', Mon g H H' μ μ' → HR g H' μ' h' → XR g H' μ' cls d x fs → W cls d H'
  | .bad => False
abbrev eqR : Hp → List Addr → Bool → Bool → Prop := fun _ _ b a => b = a
abbrev opR : Hp → List Addr → Option Int → Option Int → Prop := fun _ _ b a => b = a
section
variable {g : G} {H H1 : Hp} {μ μ1 : List Addr} {α α' β β' : Type} {rel : Hp → List Addr → β → α → Prop} {rel' : Hp → List Addr → β' → α' → Prop}
theorem Bk.mono {r : R α} {Q : β → Hp → Prop} {W : XK} (m : Mon g H H1 μ μ1) (h : Bk rel g H μ r Q W) : Bk rel g H1 μ1 r Q W := by
  cases r with
  | ok a h' => exact fun b H' μ' m' => h b H' μ' (m.trans m')
  | exc x fs h' => exact fun cls d H' μ' m' => h cls d H' μ' (m.trans m')
  | bad => exact h
theorem Bk.bind {r : R α} {f : α → MH → R α'} {Q : β → Hp → Prop} {Q' : β' → Hp → Prop} {W : XK} (hb : Bk rel' g H μ (r.bind f) Q' W)
    (k : ∀ a h1 b H1 μ1, r = .ok a h1 → Mon g H H1 μ μ1 → HR g H1 μ1 h1 → rel H1 μ1 b a → Bk rel' g H1 μ1 (f a h1) Q' W → Q b H1) : Bk rel g H μ r Q W := by
  cases r with
  | ok a h' => exact fun b H' μ' m hr hv => k a h' b H' μ' rfl m hr hv (Bk.mono m hb)
  | exc x fs h' => exact hb
  | bad => exact hb
end

abbrev ME := Slots → MH → R D
abbrev MT := Slots → MH → R Bool
abbrev MA := Slots → MH → R (List D)
abbrev MP := Slots → MH → R (Option Int)
def tX {α β : Type} (rel : G → Hp → List Addr → β → α → Prop) (g : G) (W : WX) (m : Slots → MH → R α) : St → Hp → (β → Hp → Prop) → Prop := fun σ H Q =>
  ∃ ρ h μ, SR g H μ σ ρ ∧ HR g H μ h ∧ Bk (rel g) g H μ (m ρ h) Q (fun c d H' => W c d σ H')
abbrev tE (g : G) (W : WX) (m : ME) : TE := tX VR g W m
abbrev tT (g : G) (W : WX) (m : MT) : TT := tX (fun _ => eqR) g W m
abbrev tA (g : G) (W : WX) (m : MA) : TA := tX VRs g W m
abbrev tP (g : G) (W : WX) (m : MP) : TO := tX (fun _ => opR) g W m

inductive Out where
  | nx (ρ : Slots) (h : MH) | rt (d : D) (h : MH) | bk (ρ : Slots) (h : MH) | ct (ρ : Slots) (h : MH) | exc (x : Str) (fs : List (Str × D)) (ρ : Slots) (h : MH) | bad
abbrev MS := Slots → MH → Out
def BkS (g : G) (H : Hp) (μ : List Addr) (o : Out) (E : Ends) (W : WX) : Prop := match o with
  | .nx ρ h => ∀ σ' H' μ', Mon g H H' μ μ' → SR g H' μ' σ' ρ → HR g H' μ' h → E.nx σ' H'
  | .rt d h => ∀ v H' μ', Mon g H H' μ μ' → HR g H' μ' h → VR g H' μ' v d → E.rt v H'
  | .bk ρ h => ∀ σ' H' μ', Mon g H H' μ μ' → SR g H' μ' σ' ρ → HR g H' μ' h → E.bk σ' H'
  | .ct ρ h => ∀ σ' H' μ', Mon g H H' μ μ' → SR g H' μ' σ' ρ → HR g H' μ' h → E.ct σ' H'
  | .exc x fs ρ h => ∀ cls d σ' H' μ', Mon g H H' μ μ' → SR g H' μ' σ' ρ → HR g H' μ' h → XR g H' μ' cls d x fs → W cls d σ' H'
  | .bad => False
theorem BkS.mono {g : G} {H H1 : Hp} {μ μ1 : List Addr} {o : Out} {E : Ends} {W : WX} (m : Mon g H H1 μ μ1) (h : BkS g H μ o E W) : BkS g H1 μ1 o E W := by
  cases o with
  | nx ρ h' => exact fun σ' H' μ' m' => h σ' H' μ' (m.trans m')
  | rt d h' => exact fun v H' μ' m' => h v H' μ' (m.trans m')
  | bk ρ h' => exact fun σ' H' μ' m' => h σ' H' μ' (m.trans m')
  | ct ρ h' => exact fun σ' H' μ' m' => h σ' H' μ' (m.trans m')
  | exc x fs ρ h' => exact fun cls d σ' H' μ' m' => h cls d σ' H' μ' (m.trans m')
  | bad => exact h
def tS (g : G) (W : WX) (m : MS) : TS := fun E σ H => ∃ ρ h μ, SR g H μ σ ρ ∧ HR g H μ h ∧ BkS g H μ (m ρ h) E W

/-- an expression's end within a statement -/
def R.out {α : Type} (r : R α) (ρ : Slots) (k : α → MH → Out) : Out := match r with
  | .ok a h => k a h
  | .exc x fs h => .exc x fs ρ h
  | .bad => .bad
section
variable {g : G} {W : WX} {α β α' β' : Type} {rel : G → Hp → List Addr → β → α → Prop} {rel' : G → Hp → List Addr → β' → α' → Prop} {σ : St} {H : Hp} {μ : List Addr} {ρ : Slots} {h : MH}
/-- one part is read; what follows it -/
theorem step {ma : Slots → MH → R α} {f : α → MH → R α'} {Q : β → Hp → Prop} {Q' : β' → Hp → Prop} (sr : SR g H μ σ ρ) (hr : HR g H μ h) (hb : Bk (rel' g) g H μ ((ma ρ h).bind f) Q' (fun c d H' => W c d σ H'))
    (k : ∀ b a h1 H1 μ1, Mon g H H1 μ μ1 → SR g H1 μ1 σ ρ → HR g H1 μ1 h1 → rel g H1 μ1 b a → Bk (rel' g) g H1 μ1 (f a h1) Q' (fun c d H' => W c d σ H') → Q b H1) : tX rel g W ma σ H Q :=
  ⟨ρ, h, μ, sr, hr, Bk.bind hb fun a h1 b H1 μ1 _ m hr1 hv bk => k b a h1 H1 μ1 m (sr.mono m) hr1 hv bk⟩
theorem stepS {ma : Slots → MH → R α} {f : α → MH → Out} {Q : β → Hp → Prop} {E : Ends} (sr : SR g H μ σ ρ) (hr : HR g H μ h) (hb : BkS g H μ ((ma ρ h).out ρ f) E W)
    (k : ∀ b a h1 H1 μ1, Mon g H H1 μ μ1 → SR g H1 μ1 σ ρ → HR g H1 μ1 h1 → rel g H1 μ1 b a → BkS g H1 μ1 (f a h1) E W → Q b H1) : tX rel g W ma σ H Q := by
  refine ⟨ρ, h, μ, sr, hr, ?_⟩
  cases e : ma ρ h with
  | ok a h' =>
    rw [e] at hb
    exact fun b H' μ' m hr' hv => k b a h' H' μ' m (sr.mono m) hr' hv (BkS.mono m hb)
  | exc x fs h' =>
    rw [e] at hb
    exact fun cls d H' μ' m hr' hx => hb cls d σ H' μ' m (sr.mono m) hr' hx
  | bad =>
    rw [e] at hb
    exact hb
end

/-! ### the judgements are monotone -/
section
variable {X : Cx}
theorem pe_mono {e : Expr} {t t' : TE} (h : PE X e t) (hm : ∀ σ H Q, t' σ H Q → t σ H Q) : PE X e t' := ⟨fun pins s σ H Q I q => h.run pins s σ H Q I (hm σ H Q q)⟩
theorem pt_mono {e : Expr} {t t' : TT} (h : PT X e t) (hm : ∀ σ H Q, t' σ H Q → t σ H Q) : PT X e t' := ⟨fun pins s σ H Q I q => h.run pins s σ H Q I (hm σ H Q q)⟩
theorem pw_mono {e : Expr} {t t' : TT} (h : PW X e t) (hm : ∀ σ H Q, t' σ H Q → t σ H Q) : PW X e t' := ⟨fun wh pins s σ H Q I q => h.run wh pins s σ H Q I (hm σ H Q q)⟩
theorem pa_mono {es : List Expr} {t t' : TA} (h : PA X es t) (hm : ∀ σ H Q, t' σ H Q → t σ H Q) : PA X es t' := ⟨fun pos pins s σ H Q I q => h.run pos pins s σ H Q I (hm σ H Q q)⟩
theorem ps_mono {st : Stmt} {t t' : TS} (h : PS X st t) (hm : ∀ E σ H, t' E σ H → t E σ H) : PS X st t' := ⟨fun pins s σ H E I q => h.run pins s σ H E I (hm E σ H q)⟩
theorem pss_mono {st : List Stmt} {t t' : TS} (h : PSs X st t) (hm : ∀ E σ H, t' E σ H → t E σ H) : PSs X st t' := ⟨fun pins s σ H E I q => h.run pins s σ H E I (hm E σ H q)⟩
end

/-! ### plain parts -/
def mVar (i : Nat) : ME := fun ρ h => match ρ[i]? with
  | some (some d) => .ok d h
  | _ => .bad
def mC (d : D) : ME := fun _ h => .ok d h
def mBin (f : D → D → MH → R D) (a b : ME) : ME := fun ρ h => (a ρ h).bind fun x h1 => (b ρ h1).bind fun y h2 => f x y h2
def mUn (f : D → MH → R D) (a : ME) : ME := fun ρ h => (a ρ h).bind fun x h1 => f x h1
def mNil : MA := fun _ h => .ok [] h
def mCons (a : ME) (r : MA) : MA := fun ρ h => (a ρ h).bind fun x h1 => (r ρ h1).bind fun xs h2 => .ok (x :: xs) h2
def mTup (a : MA) : ME := fun ρ h => (a ρ h).bind fun xs h1 => if xs.length ≤ 1000000 then .ok (.tup xs) h1 else .bad
def mLst (a : MA) : ME := fun ρ h => (a ρ h).bind fun xs h1 => if xs.length ≤ 1000000 then .ok (.ref h1.length) (h1 ++ [.lst xs]) else .bad
def mCall (F : List D → MH → R D) (a : MA) : ME := fun ρ h => (a ρ h).bind fun xs h1 => F xs h1

/-- an operation by values -/
def S2 (g : G) (r : R2) (f : D → D → MH → R D) : Prop := ∀ (H : Hp) (μ : List Addr) (h : MH) (x y : V) (a b : D) (Q : VK) (W : XK), HR g H μ h → VR g H μ x a → VR g H μ y b → Bk (VR g) g H μ (f a b h) Q W → r x y H Q
def S1 (g : G) (r : V → Hp → VK → Prop) (f : D → MH → R D) : Prop := ∀ (H : Hp) (μ : List Addr) (h : MH) (x : V) (a : D) (Q : VK) (W : XK), HR g H μ h → VR g H μ x a → Bk (VR g) g H μ (f a h) Q W → r x H Q
def SN (g : G) (r : List V → Hp → VK → Prop) (f : List D → MH → R D) : Prop := ∀ (H : Hp) (μ : List Addr) (h : MH) (xs : List V) (ds : List D) (Q : VK) (W : XK), HR g H μ h → VRs g H μ xs ds → Bk (VR g) g H μ (f ds h) Q W → r xs H Q
def SM (g : G) (r : V → List V → Hp → VK → Prop) (f : D → List D → MH → R D) : Prop := ∀ (H : Hp) (μ : List Addr) (h : MH) (x : V) (xs : List V) (a : D) (ds : List D) (Q : VK) (W : XK), HR g H μ h → VR g H μ x a → VRs g H μ xs ds → Bk (VR g) g H μ (f a ds h) Q W → r x xs H Q

section
variable {g : G} {H : Hp} {μ : List Addr} {h : MH} {Q : VK} {W : XK}
/-- the ends of an operation -/
theorem Bk.val {v : V} {d : D} (hb : Bk (VR g) g H μ (.ok d h) Q W) (hr : HR g H μ h) (hv : VR g H μ v d) : Q v H := hb v H μ Mon.refl hr hv
theorem Bk.newT {xs : List V} {ds : List D} {p : Addr} {ob : Obj} (hb : Bk (VR g) g H μ (.ok (.tup ds) h) Q W) (hr : HR g H μ h) (hv : VRs g H μ xs ds) (hp : H p = none) (ho : ob.dict = none) : Q (.ref p) (upd H p (.frz ob (.tup xs))) := by
  have m : Mon g H (upd H p (.frz ob (.tup xs))) μ μ := (Saf.fresh hp).mon
  exact hb _ _ μ m (hr.laid hp) (.tup (.inl ⟨ob, ho, upd_same⟩) (hv.mono m))
theorem mon_push {p : Addr} {o : HO} (hp : H p = none) : Mon g H (upd H p o) μ (μ ++ [p]) := ⟨List.prefix_append _ _, ((Saf.fresh hp : Saf H p).mon (g := g) (μ := μ) (o := o)).tups, ((Saf.fresh hp : Saf H p).mon (g := g) (μ := μ) (o := o)).xs, ((Saf.fresh hp : Saf H p).mon (g := g) (μ := μ) (o := o)).fz⟩
theorem ix_push {p : Addr} {n : Nat} (l : μ.length = n) : (μ ++ [p])[n]? = some p := by
  subst l
  simp
theorem Bk.newL {xs : List V} {ds : List D} {p : Addr} (hb : Bk (VR g) g H μ (.ok (.ref h.length) (h ++ [.lst ds])) Q W) (hr : HR g H μ h) (hv : VRs g H μ xs ds) (hp : H p = none) : Q (.ref p) (upd H p (.lst xs)) :=
  hb _ _ (μ ++ [p]) (mon_push hp) (hr.push hp ⟨xs, upd_same, hv.mono (mon_push hp)⟩) (.ref (ix_push hr.len))
theorem Bk.setL {xs xs' : List V} {ds ds' : List D} {p : Addr} {i : Nat} {v : V} {d : D} (hb : Bk (VR g) g H μ (.ok d (h.set i (.lst ds'))) Q W) (hr : HR g H μ h) (hi : μ[i]? = some p) (hh : h[i]? = some (.lst ds)) (hp : H p = some (.lst xs)) (hv : VRs g H μ xs' ds') (hd : VR g H μ v d) : Q v (upd H p (.lst xs')) := by
  have m : Mon g H (upd H p (.lst xs')) μ μ := (Saf.lst hp).mon
  exact hb v _ μ m (hr.write hi hh rfl (Saf.lst hp) rfl ⟨xs', upd_same, hv.mono m⟩) (hd.mono m)
/-- a cell that is a list -/
theorem HR.lst {i : Nat} {p : Addr} {ds : List D} (hr : HR g H μ h) (hi : μ[i]? = some p) (hh : h[i]? = some (.lst ds)) : ∃ xs, H p = some (.lst xs) ∧ VRs g H μ xs ds := hr.ob i p _ hi hh
/-- a list that may be read: a cell that changes or not -/
def getL (h : MH) (i : Nat) : Option (List D) := match h[i]? with
  | some (.lst l) => some l
  | some (.rol l) => some l
  | _ => none
theorem HR.list {i : Nat} {p : Addr} {ds : List D} (hr : HR g H μ h) (hi : μ[i]? = some p) (hh : getL h i = some ds) : ∃ xs, SqL g.K H p xs ∧ VRs g H μ xs ds := by
  unfold getL at hh
  split at hh
  · rename_i l e
    cases hh
    obtain ⟨xs, a, b⟩ := hr.ob i p _ hi e
    exact ⟨xs, .inl (.inl a), b⟩
  · rename_i l e
    cases hh
    obtain ⟨xs, a, b⟩ := hr.ob i p _ hi e
    exact ⟨xs, a.sq, b⟩
  · cases hh
end
theorem sz6 {n : Nat} (h : n ≤ 1000000) : n ≤ sizeLine := Nat.le_trans h (by decide)
theorem sz6' {n : Nat} (h : n < 1000000) : n < sizeLine := Nat.lt_trans h (by decide)

section
variable {X : Cx} {g : G} {W : WX} {a b e : Expr} {ma mb : ME} {pos : Pos} {es : List Expr} {mr : MA}
theorem se_var {i : Nat} {x : Str} (hN : X.N[i]? = some x) (hv : Vis X.env.scope x) (hd : (x == ("__debug__" : Str)) = false := by decide) (hcd : (x == ("__classdict__" : Str)) = false := by decide) : PE X (.Name x pos) (tE g W (mVar i)) :=
  pe_mono (pe_var hN hv hd hcd) fun σ H Q ⟨ρ, h, μ, sr, hr, bk⟩ => by
    unfold mVar at bk
    split at bk
    · rename_i d e
      obtain ⟨v, h1, h2⟩ := sr.get e
      exact ⟨v, h1, bk.val hr h2⟩
    · exact bk.elim
theorem mv (i : Nat) {x : Str} {pos : Pos} (hN : X.N[i]? = some x := by rfl) (hv : Vis X.env.scope x := by first | exact Or.inl rfl | exact Or.inr (Or.inl rfl) | exact Or.inr (Or.inr rfl)) (hd : (x == ("__debug__" : Str)) = false := by decide)
    (hcd : (x == ("__classdict__" : Str)) = false := by decide) : PE X (.Name x pos) (tE g W (mVar i)) := se_var hN hv hd hcd
theorem se_const {v : V} {d : D} (h : PE X e (tC v)) (hv : ∀ H μ, VR g H μ v d) : PE X e (tE g W (mC d)) := pe_mono h fun σ H Q ⟨ρ, hh, μ, sr, hr, bk⟩ => bk.val hr (hv H μ)
theorem se_int {i : Int} {j : Nat} : PE X (.Constant (.int i) j pos) (tE g W (mC (.int i))) := se_const pe_int fun _ _ => .int i
theorem se_bl {i : Bool} {j : Nat} : PE X (.Constant (.bool i) j pos) (tE g W (mC (.bl i))) := se_const pe_bl fun _ _ => .bl i
theorem se_non {j : Nat} : PE X (.Constant .none j pos) (tE g W (mC .non)) := se_const pe_non fun _ _ => .non
theorem se_str {x : Str} {j : Nat} : PE X (.Constant (.str x) j pos) (tE g W (mC (.str x))) := se_const pe_str fun _ _ => .str x
theorem se_globS {x y : Str} {t : Tok} (hg : Gl X x) (hm : X.mg x = some (.str y t)) (hd : (x == ("__debug__" : Str)) = false := by decide) : PE X (.Name x pos) (tE g W (mC (.str y))) := se_const (pe_glob (v := .str y) hg hm ⟨t, rfl⟩ hd) fun _ _ => .str y
theorem se_globI {x : Str} {y : Int} {t : Tok} (hg : Gl X x) (hm : X.mg x = some (.int y t)) (hd : (x == ("__debug__" : Str)) = false := by decide) : PE X (.Name x pos) (tE g W (mC (.int y))) := se_const (pe_glob (v := .int y) hg hm ⟨t, rfl⟩ hd) fun _ _ => .int y
/-- two parts by values -/
theorem two {r : R2} {f : D → D → MH → R D} (hs : S2 g r f) {σ : St} {H : Hp} {Q : VK} (q : tE g W (mBin f ma mb) σ H Q) : tOp r (tE g W ma) (tE g W mb) σ H Q := by
  obtain ⟨ρ, h, μ, sr, hr, bk⟩ := q
  exact step sr hr bk fun x a h1 H1 μ1 m1 sr1 hr1 vx bk1 => step sr1 hr1 bk1 fun y b h2 H2 μ2 m2 sr2 hr2 vy bk2 => hs H2 μ2 h2 x y a b Q _ hr2 (vx.mono m2) vy bk2
theorem se_bin {op : Operator} {r : R2} {f : D → D → MH → R D} (ho : OpR X (binaryOp op) r) (hs : S2 g r f) (ha : PE X a (tE g W ma)) (hb : PE X b (tE g W mb)) : PE X (.BinOp a op b pos) (tE g W (mBin f ma mb)) :=
  pe_mono (pe_op ho ha hb) fun σ H Q q => two hs q
theorem se_cmp {op : CmpOp} {r : R2} {f : D → D → MH → R D} (ho : OpR X (compareOp op) r) (hs : S2 g r f) (ha : PE X a (tE g W ma)) (hb : PE X b (tE g W mb)) (hm : behindInMarks op b = false) : PE X (.Compare a [op] [b] pos) (tE g W (mBin f ma mb)) :=
  pe_mono (pe_cmpR ho ha hb hm) fun σ H Q q => two hs q
theorem se_ix {r : R2} {f : D → D → MH → R D} (hx : IxR X r) (hs : S2 g r f) (ha : PE X a (tE g W ma)) (hb : PE X b (tE g W mb)) (hp : PlainIx b) : PE X (.Subscript a b pos) (tE g W (mBin f ma mb)) :=
  pe_mono (pe_ix hx ha hb hp) fun σ H Q q => two hs q

/-! ### arguments, displays -/
theorem sa_nil : PA X [] (tA g W mNil) := pa_mono pa_nil fun σ H Q ⟨ρ, h, μ, sr, hr, bk⟩ => bk [] H μ Mon.refl hr .nil
theorem sa_cons (ha : PE X e (tE g W ma)) (hr : PA X es (tA g W mr)) (hs : starEach (e :: es) X.env = (false, eval e X.env) :: starEach es X.env := by rfl) : PA X (e :: es) (tA g W (mCons ma mr)) :=
  pa_mono (pa_cons ha hr hs) fun σ H Q ⟨ρ, h, μ, sr, hr, bk⟩ => step sr hr bk fun x a h1 H1 μ1 m1 sr1 hr1 vx bk1 => step sr1 hr1 bk1 fun xs ds h2 H2 μ2 m2 sr2 hr2 vs bk2 => bk2 (x :: xs) H2 μ2 Mon.refl hr2 (.cons (vx.mono m2) vs)
theorem se_tup {x1 : Nat} (h : PA X es (tA g W mr)) : PE X (.Tuple es x1 pos) (tE g W (mTup mr)) :=
  pe_mono (pe_tupF h) fun σ H Q ⟨ρ, h, μ, sr, hr, bk⟩ => step sr hr bk fun xs ds h1 H1 μ1 m1 sr1 hr1 vs bk1 => by
    split at bk1
    · rename_i hl
      exact ⟨by rw [vs.length]; exact sz6 hl, fun p ob hp ho => bk1.newT hr1 vs hp ho⟩
    · exact bk1.elim
theorem se_lst (h : PA X es (tA g W mr)) : PE X (.List es pos) (tE g W (mLst mr)) :=
  pe_mono (pe_lst h) fun σ H Q ⟨ρ, h, μ, sr, hr, bk⟩ => step sr hr bk fun xs ds h1 H1 μ1 m1 sr1 hr1 vs bk1 => by
    split at bk1
    · rename_i hl
      exact ⟨by rw [vs.length]; exact sz6 hl, fun p hp => bk1.newL hr1 vs hp⟩
    · exact bk1.elim
/-! ### calls of built-ins -/
theorem se_callB {x : Str} {p : Pos} {id : String} {r : List V → Hp → VK → Prop} {f : List D → MH → R D} (hc : CallR X (.builtin id) r) (hs : SN g r f) (hg : Gl X x) (hm : X.mg x = none) (hv : bootBuiltins x = some (.builtin id)) (ha : PA X (e :: es) (tA g W mr))
    (hn : x ≠ "__name__" := by decide) (hdb : (x == ("__debug__" : Str)) = false := by decide)
    (he : starEach (e :: es) X.env = (false, eval e X.env) :: starEach es X.env := by rfl) (hpl : (backTo pos (starEach es X.env)).any (·.1) = false := by rfl) : PE X (.Call (.Name x p) (e :: es) [] pos) (tE g W (mCall f mr)) :=
  pe_mono (pe_callB hc hg hm hv ha hn hdb he hpl) fun σ H Q ⟨ρ, h, μ, sr, hr, bk⟩ => step sr hr bk fun xs ds h1 H1 μ1 m1 sr1 hr1 vs bk1 => hs H1 μ1 h1 xs ds Q _ hr1 vs bk1
theorem se_callTy {x : Str} {p : Pos} {T : String} {r : List V → Hp → VK → Prop} {f : List D → MH → R D} (hc : CallR X (.type T) r) (hs : SN g r f) (hg : Gl X x) (hm : X.mg x = none) (hv : bootBuiltins x = some (.type T)) (ha : PA X (e :: es) (tA g W mr))
    (hn : x ≠ "__name__" := by decide) (hdb : (x == ("__debug__" : Str)) = false := by decide)
    (he : starEach (e :: es) X.env = (false, eval e X.env) :: starEach es X.env := by rfl) (hpl : (backTo pos (starEach es X.env)).any (·.1) = false := by rfl) : PE X (.Call (.Name x p) (e :: es) [] pos) (tE g W (mCall f mr)) :=
  pe_mono (pe_callTy hc hg hm hv ha hn hdb he hpl) fun σ H Q ⟨ρ, h, μ, sr, hr, bk⟩ => step sr hr bk fun xs ds h1 H1 μ1 m1 sr1 hr1 vs bk1 => hs H1 μ1 h1 xs ds Q _ hr1 vs bk1
/-! ### methods of built-in types -/
def mMeth (T : D → MH → Bool) (f : D → List D → MH → R D) (a : ME) (r : MA) : ME := fun ρ h => (a ρ h).bind fun x h1 => if T x h1 = true then (r ρ h1).bind fun xs h2 => f x xs h2 else .bad
def isListD (x : D) (h : MH) : Bool := match x with
  | .ref i => (getL h i).isSome
  | _ => false
def isStrD (x : D) (_ : MH) : Bool := match x with
  | .str _ => true
  | _ => false
def isTupD (x : D) (_ : MH) : Bool := match x with
  | .tup _ => true
  | _ => false
/-! ### defs of the program -/
def spM (g : G) (F : List D → MH → R D) : Sp := fun vs H Q E => ∃ ds h μ, VRs g H μ vs ds ∧ HR g H μ h ∧ Bk (VR g) g H μ (F ds h) Q E
theorem se_call {k : Nat} {f : Addr} {fd : FuncData} {ps : List Str} {F : List D → MH → R D} {x : Str} {p : Pos} (FF : FnOk X.prog X.w X.K X.mg X.base (L2.CX X.prog X.w) k f fd ps (spM g F)) (hr : Room k X.A) (tk : Takes X W) (hm : X.mg x = some (.ref f)) (hk : PySem.W.keepIn X.K (.ref f) = true) (hb : Binds X.K fd ps [])
    (ha : PA X (e :: es) (tA g W mr)) (hg : Gl X x := by rfl) (hdb : (x == ("__debug__" : Str)) = false := by decide) (he : starEach (e :: es) X.env = (false, eval e X.env) :: starEach es X.env := by rfl) (hpl : (backTo pos (starEach es X.env)).any (·.1) = false := by rfl) :
    PE X (.Call (.Name x p) (e :: es) [] pos) (tE g W (mCall F mr)) :=
  pe_mono (pe_callS FF hr hg hm hk hb (fun σ => passAt tk σ) ha hdb he hpl) fun σ H Q ⟨ρ, h, μ, sr, hr, bk⟩ => step sr hr bk fun xs ds h1 H1 μ1 m1 sr1 hr1 vs bk1 => ⟨ds, h1, μ1, vs, hr1, bk1⟩

/-! ### tests -/
def mB (a : ME) : MT := fun ρ h => (a ρ h).bind fun x h1 => match x with
  | .bl b => .ok b h1
  | _ => .bad
def mAnd (a b : MT) : MT := fun ρ h => (a ρ h).bind fun x h1 => if x = true then b ρ h1 else .ok false h1
def mOr (a b : MT) : MT := fun ρ h => (a ρ h).bind fun x h1 => if x = true then .ok true h1 else b ρ h1
def mNot (a : MT) : MT := fun ρ h => (a ρ h).bind fun x h1 => .ok (!x) h1
theorem bl_of {σ : St} {H : Hp} {Q : Bool → Hp → Prop} (q : tT g W (mB ma) σ H Q) : tE g W ma σ H fun x H1 => ∃ c, x = .bl c ∧ Q c H1 := by
  obtain ⟨ρ, h, μ, sr, hr, bk⟩ := q
  refine step (rel := VR) (rel' := fun _ => eqR) (ma := ma) sr hr bk fun x a h1 H1 μ1 m1 sr1 hr1 vx bk1 => ?_
  cases vx with
  | bl b => exact ⟨b, rfl, bk1 b H1 μ1 Mon.refl hr1 rfl⟩
  | _ => exact bk1.elim
theorem st_val (ha : PE X a (tE g W ma)) (he : ∀ whole, isTrue a X.env whole = (do let v ← whole; standAt a.pos; holding [v] (truthy v)) := by intro _; rfl) : PT X a (tT g W (mB ma)) :=
  pt_mono (pt_val ha he) fun σ H Q q => bl_of q
theorem st_cmp {op : CmpOp} {r : R2} {f : D → D → MH → R D} (ho : OpR X (compareOp op) r) (hs : S2 g r f) (ha : PE X a (tE g W ma)) (hb : PE X b (tE g W mb)) (hm : behindInMarks op b = false) : PT X (.Compare a [op] [b] pos) (tT g W (mB (mBin f ma mb))) :=
  pt_mono (pt_cmpR ho ha hb hm) fun σ H Q ⟨ρ, h, μ, sr, hr, bk⟩ => by
    refine two (W := W) (f := f) hs ⟨ρ, h, μ, sr, hr, ?_⟩
    refine Bk.bind bk fun a h1 b H1 μ1 _ m hr1 hv bk1 => ?_
    cases hv with
    | bl b => exact ⟨b, rfl, bk1 b H1 μ1 Mon.refl hr1 rfl⟩
    | _ => exact bk1.elim
variable {tm um : MT} {rest : List Expr}
theorem st_not (ha : PT X a (tT g W tm)) : PT X (.UnaryOp .Not a pos) (tT g W (mNot tm)) :=
  pt_mono (pt_not ha) fun σ H Q ⟨ρ, h, μ, sr, hr, bk⟩ => step (rel := fun _ => eqR) (rel' := fun _ => eqR) (ma := tm) (Q' := Q) sr hr bk fun x a h1 H1 μ1 m1 sr1 hr1 vx bk1 => by
    cases vx
    exact bk1 _ H1 μ1 Mon.refl hr1 rfl
theorem sw_and1 (ha : PT X a (tT g W tm)) : PW X (.BoolOp .And [a] pos) (tT g W tm) := pw_and1 ha
theorem sw_or1 (ha : PT X a (tT g W tm)) : PW X (.BoolOp .Or [a] pos) (tT g W tm) := pw_or1 ha
theorem sw_and (ha : PT X a (tT g W tm)) (hb : PW X (.BoolOp .And (b :: rest) pos) (tT g W um)) : PW X (.BoolOp .And (a :: b :: rest) pos) (tT g W (mAnd tm um)) :=
  pw_mono (pw_and ha hb) fun σ H Q ⟨ρ, h, μ, sr, hr, bk⟩ => step (rel := fun _ => eqR) (rel' := fun _ => eqR) (ma := tm) (Q' := Q) sr hr bk fun x a h1 H1 μ1 m1 sr1 hr1 vx bk1 => by
    cases vx
    cases x with
    | true => exact ⟨ρ, h1, μ1, sr1, hr1, bk1⟩
    | false => exact bk1 _ H1 μ1 Mon.refl hr1 rfl
theorem sw_or (ha : PT X a (tT g W tm)) (hb : PW X (.BoolOp .Or (b :: rest) pos) (tT g W um)) : PW X (.BoolOp .Or (a :: b :: rest) pos) (tT g W (mOr tm um)) :=
  pw_mono (pw_or ha hb) fun σ H Q ⟨ρ, h, μ, sr, hr, bk⟩ => step (rel := fun _ => eqR) (rel' := fun _ => eqR) (ma := tm) (Q' := Q) sr hr bk fun x a h1 H1 μ1 m1 sr1 hr1 vx bk1 => by
    cases vx
    cases x with
    | false => exact ⟨ρ, h1, μ1, sr1, hr1, bk1⟩
    | true => exact bk1 _ H1 μ1 Mon.refl hr1 rfl
/-! ### and, or, not as values (of truths) -/
def mAndV (a b : ME) : ME := fun ρ h => (a ρ h).bind fun x h1 => match x with
  | .bl true => b ρ h1
  | .bl false => .ok (.bl false) h1
  | _ => .bad
def mOrV (a b : ME) : ME := fun ρ h => (a ρ h).bind fun x h1 => match x with
  | .bl false => b ρ h1
  | .bl true => .ok (.bl true) h1
  | _ => .bad
def mNotV (a : ME) : ME := fun ρ h => (a ρ h).bind fun x h1 => match x with
  | .bl b => .ok (.bl (!b)) h1
  | _ => .bad
theorem se_one {op : BoolOp} {t : TE} (h : PE X a t) : PE X (.BoolOp op [a] pos) t := pe_one h
theorem se_and (ha : PE X a (tE g W ma)) (hb : PE X (.BoolOp .And (b :: rest) pos) (tE g W mb)) : PE X (.BoolOp .And (a :: b :: rest) pos) (tE g W (mAndV ma mb)) :=
  pe_mono (pe_and ha hb) fun σ H Q ⟨ρ, h, μ, sr, hr, bk⟩ => step (rel := VR) (rel' := VR) (ma := ma) (Q' := Q) sr hr bk fun x a h1 H1 μ1 m1 sr1 hr1 vx bk1 => by
    cases vx with
    | bl b =>
      cases b with
      | true => exact ⟨true, rfl, ρ, h1, μ1, sr1, hr1, bk1⟩
      | false => exact ⟨false, rfl, bk1.val hr1 (.bl false)⟩
    | _ => exact bk1.elim
theorem se_or (ha : PE X a (tE g W ma)) (hb : PE X (.BoolOp .Or (b :: rest) pos) (tE g W mb)) : PE X (.BoolOp .Or (a :: b :: rest) pos) (tE g W (mOrV ma mb)) :=
  pe_mono (pe_or ha hb) fun σ H Q ⟨ρ, h, μ, sr, hr, bk⟩ => step (rel := VR) (rel' := VR) (ma := ma) (Q' := Q) sr hr bk fun x a h1 H1 μ1 m1 sr1 hr1 vx bk1 => by
    cases vx with
    | bl b =>
      cases b with
      | false => exact ⟨false, rfl, ρ, h1, μ1, sr1, hr1, bk1⟩
      | true => exact ⟨true, rfl, bk1.val hr1 (.bl true)⟩
    | _ => exact bk1.elim
theorem se_not (ha : PE X a (tE g W ma)) : PE X (.UnaryOp .Not a pos) (tE g W (mNotV ma)) :=
  pe_mono (pe_not ha) fun σ H Q ⟨ρ, h, μ, sr, hr, bk⟩ => step (rel := VR) (rel' := VR) (ma := ma) (Q' := Q) sr hr bk fun x a h1 H1 μ1 m1 sr1 hr1 vx bk1 => by
    cases vx with
    | bl b => exact ⟨b, rfl, bk1.val hr1 (.bl _)⟩
    | _ => exact bk1.elim
def mIfE (c : MT) (a b : ME) : ME := fun ρ h => (c ρ h).bind fun x h1 => if x = true then a ρ h1 else b ρ h1
end

/-! ### statements -/
def mSkip : MS := fun ρ h => .nx ρ h
def mSeq (a b : MS) : MS := fun ρ h => match a ρ h with
  | .nx ρ' h' => b ρ' h'
  | o => o
def mBreak : MS := fun ρ h => .bk ρ h
def mCont : MS := fun ρ h => .ct ρ h
def mDrop (e : ME) : MS := fun ρ h => (e ρ h).out ρ fun _ h1 => .nx ρ h1
def mRet (e : ME) : MS := fun ρ h => (e ρ h).out ρ fun d h1 => .rt d h1
def mRetN : MS := fun _ h => .rt .non h
def mIf (c : MT) (a b : MS) : MS := fun ρ h => (c ρ h).out ρ fun x h1 => if x = true then a ρ h1 else b ρ h1
def mAsg (i : Nat) (e : ME) : MS := fun ρ h => (e ρ h).out ρ fun d h1 => .nx (ρ.set i (some d)) h1
section
variable {X : Cx} {g : G} {W : WX} {e : Expr} {me : ME} {pos : Pos} {st : Stmt} {rest : List Stmt} {ms mr : MS}
theorem ss_nil : PSs X [] (tS g W mSkip) := pss_mono pss_nil fun E σ H ⟨ρ, h, μ, sr, hr, bk⟩ => bk σ H μ Mon.refl sr hr
theorem seq_of {E : Ends} {σ : St} {H : Hp} (q : tS g W (mSeq ms mr) E σ H) : tSeq (tS g W ms) (tS g W mr) E σ H := by
  obtain ⟨ρ, h, μ, sr, hr, bk⟩ := q
  refine ⟨ρ, h, μ, sr, hr, ?_⟩
  unfold mSeq at bk
  cases e : ms ρ h with
  | nx ρ' h' =>
    rw [e] at bk
    exact fun σ' H' μ' m sr' hr' => ⟨ρ', h', μ', sr', hr', BkS.mono m bk⟩
  | rt d h' => rw [e] at bk; exact bk
  | bk ρ' h' => rw [e] at bk; exact bk
  | ct ρ' h' => rw [e] at bk; exact bk
  | exc x fs ρ' h' => rw [e] at bk; exact bk
  | bad => rw [e] at bk; exact bk
theorem ss_cons (h1 : PS X st (tS g W ms)) (h2 : PSs X rest (tS g W mr)) : PSs X (st :: rest) (tS g W (mSeq ms mr)) := pss_mono (pss_cons h1 h2) fun E σ H q => seq_of q
theorem ss_one (h1 : PS X st (tS g W ms)) : PSs X [st] (tS g W ms) := pss_one h1
theorem sx_expr (he : PE X e (tE g W me)) (hs : swapsWith e none pos.line X.env = pure false := by rfl) : PS X (.Expr e pos) (tS g W (mDrop me)) :=
  ps_mono (ps_expr he hs) fun E σ H ⟨ρ, h, μ, sr, hr, bk⟩ => stepS (rel := VR) (ma := me) (E := E) sr hr bk fun x a h1 H1 μ1 m1 sr1 hr1 vx bk1 => bk1 σ H1 μ1 Mon.refl sr1 hr1
theorem sx_ret (he : PE X e (tE g W me)) : PS X (.Return (some e) pos) (tS g W (mRet me)) :=
  ps_mono (ps_ret he) fun E σ H ⟨ρ, h, μ, sr, hr, bk⟩ => stepS (rel := VR) (ma := me) (E := E) sr hr bk fun x a h1 H1 μ1 m1 sr1 hr1 vx bk1 => bk1 x H1 μ1 Mon.refl hr1 vx
theorem sx_if {c : Expr} {a b : List Stmt} {tm : MT} (hc : PT X c (tT g W tm)) (ha : PSs X a (tS g W ms)) (hb : PSs X b (tS g W mr)) : PS X (.If c a b pos) (tS g W (mIf tm ms mr)) :=
  ps_mono (ps_if hc ha hb) fun E σ H ⟨ρ, h, μ, sr, hr, bk⟩ => stepS (rel := fun _ => eqR) (ma := tm) (E := E) sr hr bk fun x a h1 H1 μ1 m1 sr1 hr1 vx bk1 => by
    cases vx
    cases x with
    | true => exact ⟨ρ, h1, μ1, sr1, hr1, bk1⟩
    | false => exact ⟨ρ, h1, μ1, sr1, hr1, bk1⟩
theorem sx_set {i : Nat} {x : Str} {pos' : Pos} (he : PE X e (tE g W me)) (hN : X.N.Nodup) (hi : X.N[i]? = some x := by rfl) (hx : Loc X.env.scope x := by first | exact Or.inl rfl | exact Or.inr rfl) (hs : swapsWith e (some (.Name x pos')) pos.line X.env = pure false := by rfl)
    (hf : X.fn x = true ∨ X.env.scope.names.lookup x = some .local := by first | exact .inl rfl | exact .inr rfl | assumption) : PS X (.Assign [.Name x pos'] e pos) (tS g W (mAsg i me)) :=
  ps_mono (ps_set hN hi hx he hs hf) fun E σ H ⟨ρ, h, μ, sr, hr, bk⟩ => stepS (rel := VR) (ma := me) (E := E) sr hr bk fun v d h1 H1 μ1 m1 sr1 hr1 vx bk1 => bk1 _ H1 μ1 Mon.refl (sr1.set i vx) hr1
end
end Mi
namespace Mi
open PySem L2

/-! ### operators by values -/
def dAdd : D → D → MH → R D
  | .int i, .int j, h => .ok (.int (i + j)) h
  | .str x, .str y, h => if x.length + y.length ≤ 1000000 then .ok (.str (x ++ y)) h else .bad
  | .tup a, .tup b, h => if a.length + b.length ≤ 1000000 then .ok (.tup (a ++ b)) h else .bad
  | .ref i, .ref j, h => match h[i]?, h[j]? with
    | some (.lst a), some (.lst b) => if a.length + b.length ≤ 1000000 then .ok (.ref h.length) (h ++ [.lst (a ++ b)]) else .bad
    | _, _ => .bad
  | _, _, _ => .bad
def dSub : D → D → MH → R D
  | .int i, .int j, h => .ok (.int (i - j)) h
  | _, _, _ => .bad
def dMul : D → D → MH → R D
  | .int i, .int j, h => if (Builtin.Int.intBits i : Int) + (Builtin.Int.intBits j : Int) ≤ 134217728 then .ok (.int (i * j)) h else .bad
  | .str x, .int n, h => if n ≤ 1000000 ∧ -1000000 ≤ n ∧ x.length * n.toNat ≤ 1000000 then .ok (.str (Txt.mul x n)) h else .bad
  | _, _, _ => .bad
def dFdiv : D → D → MH → R D
  | .int i, .int j, h => if 0 < j ∧ j.natAbs.log2 < 9000 then .ok (.int (i / j)) h else .bad
  | _, _, _ => .bad
def dMod : D → D → MH → R D
  | .int i, .int j, h => if 0 < j then .ok (.int (i % j)) h else .bad
  | _, _, _ => .bad
def dPow : D → D → MH → R D
  | .int i, .int j, h => if 0 ≤ j ∧ j ≤ 1000000 ∧ i.natAbs < 2 ^ 64 then .ok (.int (i ^ j.toNat)) h else .bad
  | _, _, _ => .bad
def dShl : D → D → MH → R D
  | .int i, .int j, h => if 0 ≤ j ∧ j ≤ 1000000 ∧ i.natAbs < 2 ^ 64 then .ok (.int (i * 2 ^ j.toNat)) h else .bad
  | _, _, _ => .bad
def dBand : D → D → MH → R D
  | .int i, .int j, h => .ok (.int (Builtin.bitAnd i j)) h
  | _, _, _ => .bad
def dBor : D → D → MH → R D
  | .int i, .int j, h => .ok (.int (Builtin.bitOr i j)) h
  | _, _, _ => .bad
def dLt : D → D → MH → R D
  | .int i, .int j, h => .ok (.bl (decide (i < j))) h
  | _, _, _ => .bad
def dLe : D → D → MH → R D
  | .int i, .int j, h => .ok (.bl (decide (i ≤ j))) h
  | _, _, _ => .bad
def dGt : D → D → MH → R D
  | .int i, .int j, h => .ok (.bl (decide (j < i))) h
  | _, _, _ => .bad
def dGe : D → D → MH → R D
  | .int i, .int j, h => .ok (.bl (decide (j ≤ i))) h
  | _, _, _ => .bad
def dNeg : D → MH → R D
  | .int i, h => .ok (.int (-i)) h
  | _, _ => .bad

section
variable {g : G} {X : Cx}
theorem s2_int {C : Int → Int → Prop} [∀ i j, Decidable (C i j)] {o : Int → Int → Int} {f : D → D → MH → R D} (hi : ∀ i j h, f (.int i) (.int j) h = if C i j then .ok (.int (o i j)) h else .bad) (hb : ∀ a b h, (∀ i j, ¬ (a = .int i ∧ b = .int j)) → f a b h = .bad) :
    S2 g (rI C fun i j => .int (o i j)) f := by
  intro H μ h x y a b Q W hr vx vy bk
  have no : (∀ i j, ¬ (a = .int i ∧ b = .int j)) → rI C (fun i j => .int (o i j)) x y H Q := fun z => by rw [hb a b h z] at bk; exact bk.elim
  cases vx with
  | int i =>
    cases vy with
    | int j =>
      rw [hi] at bk
      by_cases c : C i j
      · rw [if_pos c] at bk
        exact ⟨i, j, rfl, rfl, c, bk.val hr (.int _)⟩
      · rw [if_neg c] at bk; exact bk.elim
    | _ => exact no fun _ _ z => nomatch z.2
  | _ => exact no fun _ _ z => nomatch z.1
theorem s2_int0 {o : Int → Int → V} {o' : Int → Int → D} {f : D → D → MH → R D} (hi : ∀ i j h, f (.int i) (.int j) h = .ok (o' i j) h) (hv : ∀ H μ i j, VR g H μ (o i j) (o' i j)) (hb : ∀ a b h, (∀ i j, ¬ (a = .int i ∧ b = .int j)) → f a b h = .bad) :
    S2 g (rI0 o) f := by
  intro H μ h x y a b Q W hr vx vy bk
  have no : (∀ i j, ¬ (a = .int i ∧ b = .int j)) → rI0 o x y H Q := fun z => by rw [hb a b h z] at bk; exact bk.elim
  cases vx with
  | int i =>
    cases vy with
    | int j =>
      rw [hi] at bk
      exact ⟨i, j, rfl, rfl, bk.val hr (hv _ _ _ _)⟩
    | _ => exact no fun _ _ z => nomatch z.2
  | _ => exact no fun _ _ z => nomatch z.1
theorem int_bad {f : D → D → MH → R D} (hf : ∀ (a b : D) (h : MH), (match a, b with | D.int _, D.int _ => True | _, _ => f a b h = .bad)) : ∀ a b h, (∀ i j, ¬ (a = .int i ∧ b = .int j)) → f a b h = .bad := fun a b h z => by
  have := hf a b h
  split at this
  · exact absurd ⟨rfl, rfl⟩ (z _ _)
  · exact this
theorem s2_sub : S2 g (rI0 fun i j => .int (i - j)) dSub := s2_int0 (o' := fun i j => .int (i - j)) (fun _ _ _ => rfl) (fun _ _ _ _ => .int _) (int_bad fun a b h => by cases a <;> cases b <;> first | trivial | rfl)
theorem s2_fdiv : S2 g (rI CDivW fun i j => .int (i / j)) dFdiv := s2_int (C := fun i j => 0 < j ∧ j.natAbs.log2 < 9000) (o := fun i j => i / j) (fun _ _ _ => rfl) (int_bad fun a b h => by cases a <;> cases b <;> first | trivial | rfl)
theorem s2_mod : S2 g (rI (fun _ j => 0 < j) fun i j => .int (i % j)) dMod := s2_int (C := fun i j => 0 < j) (o := fun i j => i % j) (fun _ _ _ => rfl) (int_bad fun a b h => by cases a <;> cases b <;> first | trivial | rfl)
theorem s2_pow : S2 g (rI CPow fun i j => .int (i ^ j.toNat)) dPow := s2_int (C := fun i j => 0 ≤ j ∧ j ≤ 1000000 ∧ i.natAbs < 2 ^ 64) (o := fun i j => i ^ j.toNat) (fun _ _ _ => rfl) (int_bad fun a b h => by cases a <;> cases b <;> first | trivial | rfl)
theorem s2_lt : S2 g (rI0 fun i j => .bl (decide (i < j))) dLt := s2_int0 (o' := fun i j => .bl (decide (i < j))) (fun _ _ _ => rfl) (fun _ _ _ _ => .bl _) (int_bad fun a b h => by cases a <;> cases b <;> first | trivial | rfl)
theorem s2_gt : S2 g (rI0 fun i j => .bl (decide (j < i))) dGt := s2_int0 (o' := fun i j => .bl (decide (j < i))) (fun _ _ _ => rfl) (fun _ _ _ _ => .bl _) (int_bad fun a b h => by cases a <;> cases b <;> first | trivial | rfl)
theorem s2_ge : S2 g (rI0 fun i j => .bl (decide (j ≤ i))) dGe := s2_int0 (o' := fun i j => .bl (decide (j ≤ i))) (fun _ _ _ => rfl) (fun _ _ _ _ => .bl _) (int_bad fun a b h => by cases a <;> cases b <;> first | trivial | rfl)
/-- + -/
def rAddA (K : PySem.W.Frag) : R2 := fun x y H Q => (rI0 (fun i j => .int (i + j)) x y H Q ∨ (∃ i j, x = .str i ∧ y = .str j ∧ i.length + j.length ≤ sizeLine ∧ Q (.str (i ++ j)) H)) ∨ (rCatF K x y H Q ∨ rCat x y H Q)
theorem op_addA : OpR X (binaryOp .Add) (rAddA X.K) := (op_add.or op_add_str).or (op_catF.or op_cat)
theorem nil_of_vrs {H : Hp} {μ : List Addr} {xs : List V} {ds : List D} (h : VRs g H μ xs ds) (e : xs = []) : ds = [] := by subst e; cases h; rfl
theorem s2_add : S2 g (rAddA g.K) dAdd := by
  intro H μ h x y a b Q W hr vx vy bk
  cases vx with
  | int i =>
    cases vy with
    | int j => exact .inl (.inl ⟨i, j, rfl, rfl, bk.val hr (.int _)⟩)
    | _ => exact bk.elim
  | str i =>
    cases vy with
    | str j =>
      simp only [dAdd] at bk
      split at bk
      · rename_i hl
        exact .inl (.inr ⟨i, j, rfl, rfl, sz6 hl, bk.val hr (.str _)⟩)
      · exact bk.elim
    | _ => exact bk.elim
  | @tup p xs ds hs vs =>
    cases vy with
    | @tup q ys es ht vt =>
      simp only [dAdd] at bk
      split at bk
      · rename_i hl
        refine .inr (.inl ⟨p, q, xs, ys, rfl, rfl, hs.sq, ht.sq, by rw [vs.length, vt.length]; exact sz6 hl, fun e => ?_, fun e e' => ?_, fun e e' r ob hr' ho => ?_⟩)
        · rw [nil_of_vrs vs e] at bk
          exact bk.val hr (.tup ht vt)
        · rw [nil_of_vrs vt e', List.append_nil] at bk
          exact bk.val hr (.tup hs vs)
        · exact bk.newT hr (vs.append vt) hr' ho
      · exact bk.elim
    | _ => exact bk.elim
  | @ref p i hi =>
    cases vy with
    | @ref q j hj =>
      simp only [dAdd] at bk
      split at bk
      · rename_i l1 l2 e1 e2
        obtain ⟨xs, h1, v1⟩ := hr.lst hi e1
        obtain ⟨ys, h2, v2⟩ := hr.lst hj e2
        split at bk
        · rename_i hl
          exact .inr (.inr ⟨p, q, xs, ys, rfl, rfl, h1, h2, by rw [v1.length, v2.length]; exact sz6 hl, fun r hr' => bk.newL hr (v1.append v2) hr'⟩)
        · exact bk.elim
      · exact bk.elim
    | _ => exact bk.elim
  | _ => exact bk.elim
/-- * -/
theorem op_mul_str : OpR X (binaryOp .Mult) (fun x y H Q => ∃ z n, x = .str z ∧ y = .int n ∧ MulOk z n ∧ Q (.str (Txt.mul z n)) H) := by
  intro pins s σ H x y v u Q I rx ry h
  obtain ⟨z, n, rfl, rfl, hok, q⟩ := h
  obtain ⟨t, rfl⟩ := rx
  obtain ⟨t', rfl⟩ := ry
  exact PySem.SB.mul hok fun t' k => ⟨.str _, H, I.tok k, ⟨t', rfl⟩, q⟩
def rMulA : R2 := fun x y H Q => rI CMulX (fun i j => .int (i * j)) x y H Q ∨ (∃ z n, x = .str z ∧ y = .int n ∧ MulOk z n ∧ Q (.str (Txt.mul z n)) H)
theorem op_mulA : OpR X (binaryOp .Mult) rMulA := op_mulX.or op_mul_str
theorem mulOk_of {z : Str} {n : Int} (h1 : n ≤ 1000000) (h2 : -1000000 ≤ n) (h3 : z.length * n.toNat ≤ 1000000) : MulOk z n := by
  refine ⟨?_, fun a b => ?_, fun a b => ?_⟩
  · rw [decide_eq_false (by omega), decide_eq_false (by omega)]; rfl
  · have hz : z.length ≤ 1000000 := Nat.le_trans (Nat.le_mul_of_pos_right _ (by omega)) h3
    have : (2 ^ 63 - 1 : Int) / n ≥ (2 ^ 63 - 1) / 1000000 := by
      have h0 : 0 < n := by omega
      rw [ge_iff_le, Int.le_ediv_iff_mul_le h0]
      have : (2 ^ 63 - 1 : Int) / 1000000 * n ≤ (2 ^ 63 - 1 : Int) / 1000000 * 1000000 := Int.mul_le_mul_of_nonneg_left h1 (by decide)
      exact Int.le_trans this (by decide)
    have h4 : ((2 ^ 63 - 1 : Int)) / 1000000 ≥ 1000000 := by decide
    omega
  · unfold Builtin.Str.tooLong
    simp only [decide_eq_false_iff_not]
    first
      | (show ¬ (z.length * n.toNat > sizeLine); rw [sizeLine_eq]; omega)
      | (rw [decide_eq_false_iff_not, sizeLine_eq]; omega)
      | (simp; omega)
theorem s2_mul : S2 g rMulA dMul := by
  intro H μ h x y a b Q W hr vx vy bk
  cases vx with
  | int i =>
    cases vy with
    | int j =>
      simp only [dMul] at bk
      split at bk
      · rename_i c
        exact .inl ⟨i, j, rfl, rfl, c, bk.val hr (.int _)⟩
      · exact bk.elim
    | _ => exact bk.elim
  | str z =>
    cases vy with
    | int n =>
      simp only [dMul] at bk
      split at bk
      · rename_i c
        exact .inr ⟨z, n, rfl, rfl, mulOk_of c.1 c.2.1 c.2.2, bk.val hr (.str _)⟩
      · exact bk.elim
    | _ => exact bk.elim
  | _ => exact bk.elim
end

/-! ### ==, != -/
def allSome {α : Type} : List (Option α) → Option (List α)
  | [] => some []
  | none :: _ => none
  | some a :: r => (allSome r).map (a :: ·)
def pyOf : Nat → MH → D → Option PyData
  | 0, _, _ => none
  | _ + 1, _, .non => some .none
  | _ + 1, _, .bl b => some (.bool b)
  | _ + 1, _, .int i => some (.int i)
  | _ + 1, _, .str x => some (.str x)
  | n + 1, h, .tup l => (allSome (l.map (pyOf n h))).map .tuple
  | n + 1, h, .ref i => (getL h i).bind fun l => (allSome (l.map (pyOf n h))).map .list
  | _ + 1, _, .xo _ _ _ => none
section
variable {g : G} {X : Cx} {H : Hp} {μ : List Addr} {h : MH}
theorem dp_all {f : D → Option PyData} (hf : ∀ d v e, VR g H μ v d → f d = some e → Dp g.K H v e) : ∀ {xs : List V} {ds : List D} {es : List PyData}, VRs g H μ xs ds → allSome (ds.map f) = some es → DpAll g.K H xs es
  | _, _, _, .nil, e => by
    simp only [List.map_nil, allSome, Option.some.injEq] at e
    subst e
    exact .nil
  | _, _, _, .cons (d := d) a b, e => by
    rw [List.map_cons] at e
    cases q : f d with
    | none => rw [q] at e; simp [allSome] at e
    | some z =>
      rw [q] at e
      simp only [allSome, Option.map_eq_some_iff] at e
      obtain ⟨r, e1, rfl⟩ := e
      exact .cons (hf _ _ _ a q) (dp_all hf b e1)
theorem dp_of (hr : HR g H μ h) : ∀ (n : Nat) (d : D) (v : V) (e : PyData), VR g H μ v d → pyOf n h d = some e → Dp g.K H v e
  | 0, _, _, _, _, q => by cases q
  | n + 1, d, v, e, a, q => by
    cases a with
    | xo _ _ _ _ => cases q
    | non => cases q; exact .non
    | bl b => cases q; exact .bl b
    | int b => cases q; exact .int b
    | str b => cases q; exact .str b
    | tup hs vs =>
      simp only [pyOf, Option.map_eq_some_iff] at q
      obtain ⟨es, q, rfl⟩ := q
      exact .tup hs.sq (dp_all (fun d v e a q => dp_of hr n d v e a q) vs q)
    | ref hi =>
      simp only [pyOf, Option.bind_eq_some_iff, Option.map_eq_some_iff] at q
      obtain ⟨l, q1, es, q2, rfl⟩ := q
      obtain ⟨xs, hs, vs⟩ := hr.list hi q1
      exact .lst hs (dp_all (fun d v e a q => dp_of hr n d v e a q) vs q2)
def shapedX (d : PyData) : Bool := d.canLay0 && decide (d.depth ≤ 160)
def rEqX (K : PySem.W.Frag) : R2 := fun x y H Q => ∃ d e, Dp K H x d ∧ Dp K H y e ∧ shapedX d = true ∧ shapedX e = true ∧ Q (.bl (PyData.eqv d e)) H
def rNeX (K : PySem.W.Frag) : R2 := fun x y H Q => ∃ d e, Dp K H x d ∧ Dp K H y e ∧ shapedX d = true ∧ shapedX e = true ∧ Q (.bl (!PyData.eqv d e)) H
theorem shX_lay {d : PyData} (h : shapedX d = true) : d.canLay0 = true := (Bool.and_eq_true_iff.mp h).1
theorem shX_dp {d : PyData} (h : shapedX d = true) : d.depth ≤ 160 := of_decide_eq_true (Bool.and_eq_true_iff.mp h).2
section
variable {X : Cx}
theorem op_eqX {n : Nat} (hu : X.A.units + n + 200 < cLine) : OpR X (compareOp .Eq) (rEqX X.K) := by
  intro pins s σ H x y v u Q I rx ry h
  obtain ⟨d, e, hd, he, sd, se, q⟩ := h
  obtain ⟨as, r1⟩ := Dp.reads I d x v hd rx
  obtain ⟨bs, r2⟩ := Dp.reads I e y u he ry
  refine PySem.SeqAt.compareEq_reads r1 r2 (shX_lay sd) (shX_lay se) ?_ ⟨.bl _, H, I, rfl, q⟩
  have h1 := shX_dp sd
  have h2 : min d.depth e.depth ≤ d.depth := Nat.min_le_left _ _
  omega
theorem op_neX {n : Nat} (hu : X.A.units + n + 200 < cLine) : OpR X (compareOp .NotEq) (rNeX X.K) := by
  intro pins s σ H x y v u Q I rx ry h
  obtain ⟨d, e, hd, he, sd, se, q⟩ := h
  obtain ⟨as, r1⟩ := Dp.reads I d x v hd rx
  obtain ⟨bs, r2⟩ := Dp.reads I e y u he ry
  refine PySem.SeqAt.compareNe_reads r1 r2 (shX_lay sd) (shX_lay se) ?_ ⟨.bl _, H, I, rfl, q⟩
  have h1 := shX_dp sd
  have h2 : min d.depth e.depth ≤ d.depth := Nat.min_le_left _ _
  omega
end
def rInX (K : PySem.W.Frag) : R2 := fun x y H Q => ∃ d ds, Dp K H x d ∧ Dp K H y (.list ds) ∧ shapedX d = true ∧ shapedX (.list ds) = true ∧ Q (.bl (ds.any fun z => PyData.eqv z d)) H
def rNotInX (K : PySem.W.Frag) : R2 := fun x y H Q => ∃ d ds, Dp K H x d ∧ Dp K H y (.list ds) ∧ shapedX d = true ∧ shapedX (.list ds) = true ∧ Q (.bl (!ds.any fun z => PyData.eqv z d)) H
section
variable {X : Cx}
theorem op_notInX {n : Nat} (hu : X.A.units + n + 200 < cLine) : OpR X (compareOp .NotIn) (rNotInX X.K) := by
  intro pins s σ H x y v u Q I rx ry h
  obtain ⟨d, ds, hd, he, sd, se, q⟩ := h
  obtain ⟨as, r1⟩ := Dp.reads I d x v hd rx
  obtain ⟨bs, r2⟩ := Dp.reads I (.list ds) y u he ry
  have h1 := shX_dp sd
  refine SeqAt.notIn_list_reads r2 r1 (shX_lay se) (shX_lay sd) ?_ ⟨.bl _, H, I, rfl, q⟩
  have h2 : min (PyData.depthAll ds) d.depth ≤ d.depth := Nat.min_le_right _ _
  omega
end
def scalD : D → D → Bool
  | .non, .non => true | .non, .int _ => true | .int _, .non => true | .non, .bl _ => true | .bl _, .non => true | .non, .str _ => true | .str _, .non => true
  | .int _, .int _ => true | .bl _, .bl _ => true | .str _, .str _ => true
  | .int _, .str _ => true | .str _, .int _ => true | .bl _, .str _ => true | .str _, .bl _ => true
  | _, _ => false
def eqD (a b : D) (h : MH) : Option Bool := if scalD a b = true then some (decide (a = b)) else match pyOf 200 h a, pyOf 200 h b with
  | some d, some e => if shapedX d = true ∧ shapedX e = true then some (PyData.eqv d e) else none
  | _, _ => none
/-- two dicts without pairs -/
def no2 (a b : D) (h : MH) : Bool := match a, b with
  | .ref i, .ref j => decide (h[i]? = some (.dK [])) && decide (h[j]? = some (.dK []))
  | _, _ => false
/-- two tuples, one without items -/
def emp2 (a b : D) : Option Bool := match a, b with
  | .tup l, .tup m => if l = [] ∨ m = [] then some (decide (l.length = m.length)) else none
  | _, _ => none
def dEq (a b : D) (h : MH) : R D := match eqD a b h with
  | some k => .ok (.bl k) h
  | none => match emp2 a b with
    | some k => .ok (.bl k) h
    | none => if no2 a b h = true then .ok (.bl true) h else .bad
def dNe (a b : D) (h : MH) : R D := match eqD a b h with
  | some k => .ok (.bl (!k)) h
  | none => match emp2 a b with
    | some k => .ok (.bl (!k)) h
    | none => .bad
def rEqE (K : PySem.W.Frag) : R2 := fun x y H Q => ∃ a b xs ys, x = .ref a ∧ y = .ref b ∧ SqT K H a xs ∧ SqT K H b ys ∧ (xs = [] ∨ ys = []) ∧ Q (.bl (decide (xs.length = ys.length))) H
def rNeE (K : PySem.W.Frag) : R2 := fun x y H Q => ∃ a b xs ys, x = .ref a ∧ y = .ref b ∧ SqT K H a xs ∧ SqT K H b ys ∧ (xs = [] ∨ ys = []) ∧ Q (.bl (!decide (xs.length = ys.length))) H
theorem emp_ev {us ws : Array Value} {n m : Nat} (h1 : us.size = n) (h2 : ws.size = m) (h0 : n = 0 ∨ m = 0) : ((List.range (min us.size ws.size)).all (fun _ => true) && us.size == ws.size) = decide (n = m) := by
  subst h1 h2
  have : min us.size ws.size = 0 := by omega
  rw [this]
  simp only [List.range_zero, List.all_nil, Bool.true_and]
  rw [Bool.eq_iff_iff, beq_iff_eq, decide_eq_true_iff]
theorem op_eqE (hu : X.A.units + 64 < cLine) : OpR X (compareOp .Eq) (rEqE X.K) := by
  intro pins s σ H x y v u Q I rx ry hh
  obtain ⟨a, b, xs, ys, rfl, rfl, ha, hb, h0, q⟩ := hh
  cases rx
  cases ry
  obtain ⟨ws1, r1, p1, _⟩ := I.tuple ha
  obtain ⟨ws2, r2, p2, _⟩ := I.tuple hb
  have l1 : ws1.toArray.size = xs.length := by rw [List.size_toArray]; exact r1.length.symm
  have l2 : ws2.toArray.size = ys.length := by rw [List.size_toArray]; exact r2.length.symm
  have h00 : xs.length = 0 ∨ ys.length = 0 := by
    rcases h0 with z | z
    · exact .inl (by rw [z]; rfl)
    · exact .inr (by rw [z]; rfl)
  refine SeqAt.eq_tupleAt (e := fun _ => true) p1 p2 (by omega) (fun j j1 j2 => by omega) ?_
  rw [emp_ev l1 l2 h00]
  exact ⟨.bl _, H, I, rfl, q⟩
theorem op_neE (hu : X.A.units + 64 < cLine) : OpR X (compareOp .NotEq) (rNeE X.K) := by
  intro pins s σ H x y v u Q I rx ry hh
  obtain ⟨a, b, xs, ys, rfl, rfl, ha, hb, h0, q⟩ := hh
  cases rx
  cases ry
  obtain ⟨ws1, r1, p1, _⟩ := I.tuple ha
  obtain ⟨ws2, r2, p2, _⟩ := I.tuple hb
  have l1 : ws1.toArray.size = xs.length := by rw [List.size_toArray]; exact r1.length.symm
  have l2 : ws2.toArray.size = ys.length := by rw [List.size_toArray]; exact r2.length.symm
  have h00 : xs.length = 0 ∨ ys.length = 0 := by
    rcases h0 with z | z
    · exact .inl (by rw [z]; rfl)
    · exact .inr (by rw [z]; rfl)
  refine SeqAt.RcNeAt.tuples (e := fun _ => true) p1 p2 (by omega) (fun j j1 j2 => by omega) _ _ _ _ ?_
  rw [emp_ev l1 l2 h00]
  exact ⟨.bl _, H, I, rfl, q⟩
def rEqA (K : PySem.W.Frag) : R2 := fun x y H Q => rEq x y H Q ∨ (rEqX K x y H Q ∨ (rEqV K x y H Q ∨ rEqE K x y H Q))
def rNeA (K : PySem.W.Frag) : R2 := fun x y H Q => rNe x y H Q ∨ (rNeX K x y H Q ∨ rNeE K x y H Q)
theorem op_eqA {n : Nat} (hu : X.A.units + n + 200 < cLine) : OpR X (compareOp .Eq) (rEqA X.K) := op_eq.or ((op_eqX hu).or ((op_eqV (by omega)).or (op_eqE (by omega))))
theorem op_neA {n : Nat} (hu : X.A.units + n + 200 < cLine) : OpR X (compareOp .NotEq) (rNeA X.K) := op_ne.or ((op_neX hu).or (op_neE (by omega)))
theorem scal_of {x y : V} {a b : D} (vx : VR g H μ x a) (vy : VR g H μ y b) (e : scalD a b = true) : scal x y = true ∧ decide (x = y) = decide (a = b) := by
  cases vx <;> cases vy <;> first | (cases e; done) | (refine ⟨rfl, ?_⟩; simp)
theorem eq_of {x y : V} {a b : D} {k : Bool} (hr : HR g H μ h) (vx : VR g H μ x a) (vy : VR g H μ y b) (e : eqD a b h = some k) :
    (scal x y = true ∧ decide (x = y) = k) ∨ ∃ d e, Dp g.K H x d ∧ Dp g.K H y e ∧ shapedX d = true ∧ shapedX e = true ∧ PyData.eqv d e = k := by
  unfold eqD at e
  split at e
  · rename_i s
    obtain ⟨h1, h2⟩ := scal_of vx vy s
    cases e
    exact .inl ⟨h1, h2⟩
  · split at e
    · rename_i d e' q1 q2
      split at e
      · rename_i s
        cases e
        exact .inr ⟨d, e', dp_of hr _ _ _ _ vx q1, dp_of hr _ _ _ _ vy q2, s.1, s.2, rfl⟩
      · cases e
    · cases e
theorem s2_eq : S2 g (rEqA g.K) dEq := by
  intro H μ h x y a b Q W hr vx vy bk
  unfold dEq at bk
  split at bk
  · rename_i k e
    rcases eq_of hr vx vy e with ⟨h1, h2⟩ | ⟨d, e, h1, h2, h3, h4, h5⟩
    · exact .inl ⟨h1, by rw [h2]; exact bk.val hr (.bl _)⟩
    · exact .inr (.inl ⟨d, e, h1, h2, h3, h4, by rw [h5]; exact bk.val hr (.bl _)⟩)
  · split at bk
    · rename_i k q
      unfold emp2 at q
      split at q
      · rename_i l m
        split at q
        · rename_i z
          cases q
          cases vx with
          | tup hs vs =>
            cases vy with
            | tup ht ws =>
              refine .inr (.inr (.inr ⟨_, _, _, _, rfl, rfl, hs.sq, ht.sq, ?_, ?_⟩))
              · rcases z with z | z
                · subst z; cases vs; exact .inl rfl
                · subst z; cases ws; exact .inr rfl
              · rw [vs.length, ws.length]; exact bk.val hr (.bl _)
        · cases q
      · cases q
    · split at bk
      · rename_i q
        unfold no2 at q
        split at q
        · rename_i i j
          obtain ⟨q1, q2⟩ := Bool.and_eq_true_iff.mp q
          cases vx with
          | ref hi =>
            cases vy with
            | ref hj =>
              obtain ⟨k1, e1, r1⟩ := hr.ob _ _ _ hi (of_decide_eq_true q1)
              obtain ⟨k2, e2, r2⟩ := hr.ob _ _ _ hj (of_decide_eq_true q2)
              cases r1
              cases r2
              exact .inr (.inr (.inl ⟨1, by decide, .inr ⟨_, _, [], [], rfl, rfl, e1, e2, rfl, fun p hp => by simp at hp⟩, bk.val hr (.bl true)⟩))
        · cases q
      · exact bk.elim
theorem s2_ne : S2 g (rNeA g.K) dNe := by
  intro H μ h x y a b Q W hr vx vy bk
  unfold dNe at bk
  split at bk
  · rename_i k e
    rcases eq_of hr vx vy e with ⟨h1, h2⟩ | ⟨d, e, h1, h2, h3, h4, h5⟩
    · exact .inl ⟨h1, by rw [h2]; exact bk.val hr (.bl _)⟩
    · exact .inr (.inl ⟨d, e, h1, h2, h3, h4, by rw [h5]; exact bk.val hr (.bl _)⟩)
  · split at bk
    · rename_i k q
      unfold emp2 at q
      split at q
      · rename_i l m
        split at q
        · rename_i z
          cases q
          cases vx with
          | tup hs vs =>
            cases vy with
            | tup ht ws =>
              refine .inr (.inr ⟨_, _, _, _, rfl, rfl, hs.sq, ht.sq, ?_, ?_⟩)
              · rcases z with z | z
                · subst z; cases vs; exact .inl rfl
                · subst z; cases ws; exact .inr rfl
              · rw [vs.length, ws.length]; exact bk.val hr (.bl _)
        · cases q
      · cases q
    · exact bk.elim
/-! ### is None -/
def dIsN : D → D → MH → R D
  | a, .non, h => .ok (.bl (decide (a = .non))) h
  | _, _, _ => .bad
def dNotN : D → D → MH → R D
  | a, .non, h => .ok (.bl (!decide (a = .non))) h
  | _, _, _ => .bad
theorem non_of {x : V} {a : D} (vx : VR g H μ x a) : decide (x = .non) = decide (a = .non) := by cases vx <;> simp
theorem s2_isN : S2 g (fun x y H Q => y = .non ∧ Q (.bl (decide (x = .non))) H) dIsN := by
  intro H μ h x y a b Q W hr vx vy bk
  cases vy with
  | non => exact ⟨rfl, by rw [non_of vx]; exact bk.val hr (.bl _)⟩
  | _ => simp only [dIsN] at bk; exact bk.elim
theorem s2_notN : S2 g (fun x y H Q => y = .non ∧ Q (.bl (!decide (x = .non))) H) dNotN := by
  intro H μ h x y a b Q W hr vx vy bk
  cases vy with
  | non => exact ⟨rfl, by rw [non_of vx]; exact bk.val hr (.bl _)⟩
  | _ => simp only [dNotN] at bk; exact bk.elim
/-! ### in -/
def flatD : D → Bool
  | .non => true | .bl _ => true | .int _ => true | .str _ => true | _ => false
def eqF : D → D → Bool
  | .non, .non => true
  | .bl a, .bl b => a == b
  | .bl a, .int b => (if a then 1 else 0) == b
  | .int a, .bl b => a == (if b then 1 else 0)
  | .int a, .int b => a == b
  | .str a, .str b => a == b
  | _, _ => false
def seqOf (h : MH) : D → Option (List D)
  | .tup l => some l
  | .ref i => getL h i
  | _ => none
/-- x in y: a sign in a text, a flat thing in a list or tuple of such, a nested one in a list -/
def inD (a b : D) (h : MH) : Option Bool := match a, b with
  | .str x, .str z => match x.cps.toList with
    | [c] => some (decide (c ∈ z.cps.toList))
    | _ => none
  | a, b => match seqOf h b with
    | some l => if flatD a = true ∧ l.all flatD = true then some (l.any fun y => eqF y a) else match pyOf 200 h a, pyOf 200 h b with
      | some d, some (.list es) => if shapedX d = true ∧ shapedX (.list es) = true then some (es.any fun z => PyData.eqv z d) else none
      | _, _ => none
    | none => none
def dIn (a b : D) (h : MH) : R D := match inD a b h with
  | some k => .ok (.bl k) h
  | none => .bad
def dNotIn (a b : D) (h : MH) : R D := match inD a b h with
  | some k => .ok (.bl (!k)) h
  | none => .bad
def rInA (K : PySem.W.Frag) : R2 := fun x y H Q => (∃ (c : Nat) (z : Str), x = .str ⟨#[c]⟩ ∧ y = .str z ∧ Q (.bl (decide (c ∈ z.cps.toList))) H) ∨ (rIn K false x y H Q ∨ rInX K x y H Q)
def rNotInA (K : PySem.W.Frag) : R2 := fun x y H Q => (∃ (c : Nat) (z : Str), x = .str ⟨#[c]⟩ ∧ y = .str z ∧ Q (.bl (!decide (c ∈ z.cps.toList))) H) ∨ (rIn K true x y H Q ∨ rNotInX K x y H Q)
theorem op_notInA {n : Nat} (hu : X.A.units + n + 200 < cLine) : OpR X (compareOp .NotIn) (rNotInA X.K) := op_notIn_sign.or (op_notIn_seq.or (op_notInX hu))
theorem flat_of {x : V} {a : D} (vx : VR g H μ x a) : flatV x = flatD a := by cases vx <;> rfl
theorem flats_of : ∀ {xs : List V} {ds : List D}, VRs g H μ xs ds → xs.all flatV = ds.all flatD
  | _, _, .nil => rfl
  | _, _, .cons a b => by rw [List.all_cons, List.all_cons, flat_of a, flats_of b]
theorem eqF_of {x y : V} {a b : D} (vx : VR g H μ x a) (vy : VR g H μ y b) : eqV x y = eqF a b := by cases vx <;> cases vy <;> rfl
theorem any_of {x : V} {a : D} (vx : VR g H μ x a) : ∀ {xs : List V} {ds : List D}, VRs g H μ xs ds → inV x xs = ds.any fun y => eqF y a
  | _, _, .nil => rfl
  | _, _, .cons c b => by
    show (eqV _ x || inV x _) = _
    rw [List.any_cons, eqF_of c vx, any_of vx b]
theorem HR.seq {p : Addr} {b : D} {l : List D} (hr : HR g H μ h) (vb : VR g H μ (.ref p) b) (e : seqOf h b = some l) : ∃ xs, (SqL g.K H p xs ∨ SqT g.K H p xs) ∧ VRs g H μ xs l := by
  cases vb with
  | ref hi => obtain ⟨xs, h1, h2⟩ := hr.list hi e; exact ⟨xs, .inl h1, h2⟩
  | tup hs vs => cases e; exact ⟨_, .inr hs.sq, vs⟩
  | xo _ _ _ _ => cases e
theorem in_of {x y : V} {a b : D} {k : Bool} (hr : HR g H μ h) (vx : VR g H μ x a) (vy : VR g H μ y b) (e : inD a b h = some k) :
    (∃ (c : Nat) (z : Str), x = .str ⟨#[c]⟩ ∧ y = .str z ∧ decide (c ∈ z.cps.toList) = k) ∨ (∃ p xs, y = .ref p ∧ (SqL g.K H p xs ∨ SqT g.K H p xs) ∧ flatV x = true ∧ xs.all flatV = true ∧ inV x xs = k) ∨
      ∃ d ds, Dp g.K H x d ∧ Dp g.K H y (.list ds) ∧ shapedX d = true ∧ shapedX (.list ds) = true ∧ (ds.any fun z => PyData.eqv z d) = k := by
  unfold inD at e
  split at e
  · rename_i x' z
    cases vx
    cases vy
    split at e
    · rename_i c q
      cases e
      refine .inl ⟨c, z, ?_, rfl, rfl⟩
      obtain ⟨⟨cs⟩⟩ := x'
      cases q
      rfl
    · cases e
  · split at e
    · rename_i l q
      have hy : ∃ p, y = .ref p := by cases vy <;> first | exact ⟨_, rfl⟩ | cases q
      obtain ⟨p, rfl⟩ := hy
      obtain ⟨xs, h1, h2⟩ := hr.seq vy q
      split at e
      · rename_i c
        cases e
        exact .inr (.inl ⟨p, xs, rfl, h1, by rw [flat_of vx]; exact c.1, by rw [flats_of h2]; exact c.2, any_of vx h2⟩)
      · split at e
        · rename_i d es q1 q2
          split at e
          · rename_i c
            cases e
            exact .inr (.inr ⟨d, es, dp_of hr _ _ _ _ vx q1, dp_of hr _ _ _ _ vy q2, c.1, c.2, rfl⟩)
          · cases e
        · cases e
    · cases e
theorem s2_notIn : S2 g (rNotInA g.K) dNotIn := by
  intro H μ h x y a b Q W hr vx vy bk
  unfold dNotIn at bk
  split at bk
  · rename_i k e
    rcases in_of hr vx vy e with ⟨c, z, h1, h2, h3⟩ | ⟨p, xs, h1, h2, h3, h4, h5⟩ | ⟨d, e, h1, h2, h3, h4, h5⟩
    · exact .inl ⟨c, z, h1, h2, by rw [h3]; exact bk.val hr (.bl _)⟩
    · exact .inr (.inl ⟨p, xs, h1, h2, h3, h4, by rw [if_pos rfl, h5]; exact bk.val hr (.bl _)⟩)
    · exact .inr (.inr ⟨d, e, h1, h2, h3, h4, by rw [h5]; exact bk.val hr (.bl _)⟩)
  · exact bk.elim
/-! ### places -/
def dIx (a b : D) (h : MH) : R D := match b with
  | .int i => match a with
    | .str z => if z.length ≤ 1000000 then match atI z.cps.toList i with
      | some c => .ok (.str ⟨#[c]⟩) h
      | none => .bad else .bad
    | a => match seqOf h a with
      | some l => match atI l i with
        | some d => .ok d h
        | none => .bad
      | none => .bad
  | _ => .bad
theorem atI_of {xs : List V} {ds : List D} {i : Int} {d : D} (vs : VRs g H μ xs ds) (e : atI ds i = some d) : ∃ v, atI xs i = some v ∧ VR g H μ v d := by
  unfold atI at e ⊢
  rw [vs.length]
  cases q : ixN ds.length i with
  | none => rw [q] at e; cases e
  | some j =>
    rw [q] at e
    exact vs.get e
theorem s2_ix : S2 g (rIx g.K) dIx := by
  intro H μ h x y a b Q W hr vx vy bk
  cases vy with
  | int i =>
    cases vx with
    | str z =>
      simp only [dIx] at bk
      split at bk
      · rename_i hz
        split at bk
        · rename_i c e
          exact .inr (.inr ⟨z, i, c, rfl, rfl, sz6 hz, e, bk.val hr (.str _)⟩)
        · exact bk.elim
      · exact bk.elim
    | @tup p xs ds hs vs =>
      simp only [dIx, seqOf] at bk
      split at bk
      · rename_i d e
        obtain ⟨v, h1, h2⟩ := atI_of vs e
        exact .inr (.inl ⟨p, xs, i, v, rfl, rfl, hs.sq, h1, bk.val hr h2⟩)
      · exact bk.elim
    | @ref p j hj =>
      simp only [dIx, seqOf] at bk
      split at bk
      · rename_i l q
        obtain ⟨xs, hs, vs⟩ := hr.list hj q
        split at bk
        · rename_i d e
          obtain ⟨v, h1, h2⟩ := atI_of vs e
          exact .inl ⟨p, xs, i, v, rfl, rfl, hs, h1, bk.val hr h2⟩
        · exact bk.elim
      · exact bk.elim
    | _ => simp only [dIx, seqOf] at bk; exact bk.elim
  | _ => simp only [dIx] at bk; exact bk.elim
end
end Mi
namespace Mi
open PySem L2

/-! ### slices -/
def mNo : MP := fun _ h => .ok none h
def mSome (a : ME) : MP := fun ρ h => (a ρ h).bind fun x h1 => match x with
  | .int i => .ok (some i) h1
  | _ => .bad
def cutD (xs : List D) (lo hi : Option Int) : List D := (xs.drop (HT.sIx xs.length 0 lo)).take (HT.sIx xs.length xs.length hi - HT.sIx xs.length 0 lo)
def dSl (a : D) (lo hi : Option Int) (h : MH) : R D := match a with
  | .str z => if z.length ≤ 1000000 then .ok (.str (cutS z lo hi)) h else .bad
  | .tup l => .ok (.tup (cutD l lo hi)) h
  | .ref i => match getL h i with
    | some l => .ok (.ref h.length) (h ++ [.lst (cutD l lo hi)])
    | none => .bad
  | _ => .bad
def mSl (a : ME) (lo hi : MP) : ME := fun ρ h => (a ρ h).bind fun x h1 => (lo ρ h1).bind fun l h2 => (hi ρ h2).bind fun u h3 => dSl x l u h3
section
variable {X : Cx} {g : G} {W : WX} {a b e : Expr} {ma mb : ME} {pos p2 : Pos} {es : List Expr} {mr : MA} {lo hi : Option Expr} {ml mh : MP}
theorem sp_none : PO X none (tP g W mNo) := ⟨fun pins s σ H Q I ⟨ρ, h, μ, sr, hr, bk⟩ => (po_none (X := X)).run pins s σ H Q I (bk none H μ Mon.refl hr rfl)⟩
theorem sp_some (he : PE X e (tE g W ma)) : PO X (some e) (tP g W (mSome ma)) := ⟨fun pins s σ H Q I ⟨ρ, h, μ, sr, hr, bk⟩ => (po_some he).run pins s σ H Q I (step (rel := VR) (rel' := fun _ => opR) (ma := ma) (Q' := Q) sr hr bk fun x d h1 H1 μ1 m1 sr1 hr1 vx bk1 => by
  cases vx with
  | int i => exact ⟨i, rfl, bk1 _ H1 μ1 Mon.refl hr1 rfl⟩
  | _ => exact bk1.elim)⟩
theorem slR_or {r r' : V → Option Int → Option Int → Hp → VK → Prop} (h : SlR X r) (h' : SlR X r') : SlR X (fun x l u H Q => r x l u H Q ∨ r' x l u H Q) := by
  intro pins s σ H x v vl vu lo hi sl Q I rx hs pl pu q
  rcases q with q | q
  · exact h pins s σ H x v vl vu lo hi sl Q I rx hs pl pu q
  · exact h' pins s σ H x v vl vu lo hi sl Q I rx hs pl pu q
theorem cut_of {H : Hp} {μ : List Addr} {xs : List V} {ds : List D} (vs : VRs g H μ xs ds) (l u : Option Int) : VRs g H μ (cutV xs l u) (cutD ds l u) := by
  unfold cutV cutD
  rw [vs.length]
  exact (vs.drop _).take _
theorem cut_whole {ds : List D} {l u : Option Int} (h : HT.sIx ds.length 0 l = 0 ∧ HT.sIx ds.length ds.length u = ds.length) : cutD ds l u = ds := by
  unfold cutD
  rw [h.1, h.2]
  simp
theorem se_slice (he : PE X a (tE g W ma)) (hl : PO X lo (tP g W ml)) (hu : PO X hi (tP g W mh)) (hK : X.K = g.K := by rfl) : PE X (.Subscript a (.Slice lo hi none p2) pos) (tE g W (mSl ma ml mh)) :=
  pe_mono (pe_slice (slR_or sl_str (slR_or sl_tupF sl_list)) he hl hu) fun σ H Q ⟨ρ, h, μ, sr, hr, bk⟩ =>
    step (rel := VR) (rel' := VR) (ma := ma) (Q' := Q) sr hr bk fun x d h1 H1 μ1 m1 sr1 hr1 vx bk1 =>
      step (rel := fun _ => opR) (rel' := VR) (ma := ml) (Q' := Q) sr1 hr1 bk1 fun l l' h2 H2 μ2 m2 sr2 hr2 vl bk2 =>
        step (rel := fun _ => opR) (rel' := VR) (ma := mh) (Q' := Q) sr2 hr2 bk2 fun u u' h3 H3 μ3 m3 sr3 hr3 vu bk3 => by
          cases vl
          cases vu
          have vx3 := (vx.mono m2).mono m3
          rw [hK]
          cases vx3 with
          | str z =>
            simp only [dSl] at bk3
            split at bk3
            · rename_i hz
              exact .inl ⟨z, rfl, sz6 hz, bk3.val hr3 (.str _)⟩
            · exact bk3.elim
          | @tup p xs ds hs vs =>
            refine .inr (.inl ⟨p, xs, rfl, hs.sq, fun w => ?_, fun _ p ob hp ho => bk3.newT hr3 (cut_of vs _ _) hp ho⟩)
            rw [vs.length] at w
            rw [dSl, cut_whole w] at bk3
            exact bk3.val hr3 (.tup hs vs)
          | @ref p i hi =>
            simp only [dSl] at bk3
            split at bk3
            · rename_i l q
              obtain ⟨xs, hs, vs⟩ := hr3.list hi q
              exact .inr (.inr ⟨p, xs, rfl, hs, fun p hp => bk3.newL hr3 (cut_of vs _ _) hp⟩)
            · exact bk3.elim
          | _ => exact bk3.elim
end

/-! ### built-ins by values -/
def dLen : List D → MH → R D
  | [.str z], h => if z.length ≤ 1000000 then .ok (.int z.length) h else .bad
  | [.tup l], h => .ok (.int l.length) h
  | [.ref i], h => match getL h i with
    | some l => .ok (.int l.length) h
    | none => .bad
  | _, _ => .bad
def dAbs : List D → MH → R D
  | [.int i], h => .ok (.int (if i < 0 then -i else i)) h
  | _, _ => .bad
def dMax : List D → MH → R D
  | [.int i, .int j], h => .ok (.int (if j > i then j else i)) h
  | _, _ => .bad
def dMin : List D → MH → R D
  | [.int i, .int j], h => .ok (.int (if j < i then j else i)) h
  | _, _ => .bad
def dInt : List D → MH → R D
  | [.int i], h => .ok (.int i) h
  | [.bl b], h => .ok (.int (if b then 1 else 0)) h
  | _, _ => .bad
def dStr : List D → MH → R D
  | [.int i], h => if i.natAbs.log2 < 1920 then .ok (.str (toString i : String)) h else .bad
  | _, _ => .bad
def dList : List D → MH → R D
  | [a], h => match seqOf h a with
    | some l => .ok (.ref h.length) (h ++ [.lst l])
    | none => .bad
  | _, _ => .bad
def dTuple : List D → MH → R D
  | [a], h => match seqOf h a with
    | some l => .ok (.tup l) h
    | none => .bad
  | _, _ => .bad
def allBl : List D → Option (List Bool)
  | [] => some []
  | .bl b :: r => (allBl r).map (b :: ·)
  | _ => none
def dAny : List D → MH → R D
  | [.ref i], h => match (getL h i).bind allBl with
    | some bs => .ok (.bl (bs.any id)) h
    | none => .bad
  | _, _ => .bad
def dAll : List D → MH → R D
  | [.ref i], h => match (getL h i).bind allBl with
    | some bs => .ok (.bl (bs.all id)) h
    | none => .bad
  | _, _ => .bad
section
variable {g : G} {X : Cx}
theorem sn1 {r : List V → Hp → VK → Prop} {f : List D → MH → R D} (h1 : ∀ H μ h x a Q W, HR g H μ h → VR g H μ x a → Bk (VR g) g H μ (f [a] h) Q W → r [x] H Q) (h0 : ∀ h, f [] h = .bad) (h2 : ∀ a b l h, f (a :: b :: l) h = .bad) : SN g r f := by
  intro H μ h xs ds Q W hr vs bk
  cases vs with
  | nil => rw [h0] at bk; exact bk.elim
  | cons va t =>
    cases t with
    | nil => exact h1 H μ h _ _ Q W hr va bk
    | cons vb t => rw [h2] at bk; exact bk.elim
theorem sn_len : SN g (fun xs H Q => ∃ x n, xs = [x] ∧ LenV g.K x H n ∧ Q (.int n) H) dLen := sn1 (fun H μ h x a Q W hr va bk => by
  cases va with
  | str z =>
    simp only [dLen] at bk
    split at bk
    · rename_i hz; exact ⟨_, _, rfl, ⟨sz6 hz, rfl⟩, bk.val hr (.int _)⟩
    · exact bk.elim
  | @tup p xs ds hs vs => exact ⟨_, _, rfl, .inr ⟨xs, hs.sq, rfl⟩, by rw [vs.length]; exact bk.val hr (.int _)⟩
  | @ref p i hi =>
    simp only [dLen] at bk
    split at bk
    · rename_i l q
      obtain ⟨xs, hs, vs⟩ := hr.list hi q
      exact ⟨_, _, rfl, .inl ⟨xs, hs, rfl⟩, by rw [vs.length]; exact bk.val hr (.int _)⟩
    · exact bk.elim
  | _ => exact bk.elim) (fun _ => rfl) (fun a b l h => by simp [dLen])
theorem sn_list : SN g (fun xs H Q => ∃ p ys, xs = [.ref p] ∧ (SqL g.K H p ys ∨ SqT g.K H p ys) ∧ ∀ l, H l = none → Q (.ref l) (upd H l (.lst ys))) dList := sn1 (fun H μ h x a Q W hr va bk => by
  simp only [dList] at bk
  split at bk
  · rename_i l q
    have hy : ∃ p, x = .ref p := by cases va <;> first | exact ⟨_, rfl⟩ | cases q
    obtain ⟨p, rfl⟩ := hy
    obtain ⟨xs, h1, h2⟩ := hr.seq va q
    exact ⟨p, xs, rfl, h1, fun l hl => bk.newL hr h2 hl⟩
  · exact bk.elim) (fun _ => rfl) (fun a b l h => by simp [dList])
theorem sn_tuple : SN g (rTupF g.K) dTuple := sn1 (fun H μ h x a Q W hr va bk => by
  cases va with
  | @tup p xs ds hs vs => exact ⟨p, xs, rfl, .inr ⟨hs.sq, bk.val hr (.tup hs vs)⟩⟩
  | @ref p i hi =>
    simp only [dTuple, seqOf] at bk
    split at bk
    · rename_i l q
      obtain ⟨xs, hs, vs⟩ := hr.list hi q
      exact ⟨p, xs, rfl, .inl ⟨hs, fun l ob hl ho => bk.newT hr vs hl ho⟩⟩
    · exact bk.elim
  | _ => simp only [dTuple, seqOf] at bk; exact bk.elim) (fun _ => rfl) (fun a b l h => by simp [dTuple])
theorem bls_of {H : Hp} {μ : List Addr} : ∀ {xs : List V} {ds : List D} {bs : List Bool}, VRs g H μ xs ds → allBl ds = some bs → xs = bs.map V.bl
  | _, _, _, .nil, e => by cases e; rfl
  | _, _, _, .cons (d := d) a b, e => by
    cases a with
    | bl k =>
      simp only [allBl, Option.map_eq_some_iff] at e
      obtain ⟨r, e, rfl⟩ := e
      rw [bls_of b e]; rfl
    | _ => cases e
theorem sn_any : SN g (rAny g.K) dAny := sn1 (fun H μ h x a Q W hr va bk => by
  cases va with
  | @ref p i hi =>
    simp only [dAny] at bk
    split at bk
    · rename_i bs q
      obtain ⟨l, q1, q2⟩ := Option.bind_eq_some_iff.mp q
      obtain ⟨xs, hs, vs⟩ := hr.list hi q1
      exact ⟨p, bs, rfl, by rw [← bls_of vs q2]; exact hs, bk.val hr (.bl _)⟩
    · exact bk.elim
  | _ => exact bk.elim) (fun _ => rfl) (fun a b l h => by simp [dAny])
theorem sn_all : SN g (rAll g.K) dAll := sn1 (fun H μ h x a Q W hr va bk => by
  cases va with
  | @ref p i hi =>
    simp only [dAll] at bk
    split at bk
    · rename_i bs q
      obtain ⟨l, q1, q2⟩ := Option.bind_eq_some_iff.mp q
      obtain ⟨xs, hs, vs⟩ := hr.list hi q1
      exact ⟨p, bs, rfl, by rw [← bls_of vs q2]; exact hs, bk.val hr (.bl _)⟩
    · exact bk.elim
  | _ => exact bk.elim) (fun _ => rfl) (fun a b l h => by simp [dAll])
theorem sn2i {r : List V → Hp → VK → Prop} {f : List D → MH → R D} (h1 : ∀ H μ h i j Q W, HR g H μ h → Bk (VR g) g H μ (f [.int i, .int j] h) Q W → r [.int i, .int j] H Q) (h2 : ∀ ds h, (∀ i j, ds ≠ [.int i, .int j]) → f ds h = .bad) : SN g r f := by
  intro H μ h xs ds Q W hr vs bk
  have no : (∀ i j, ds ≠ [.int i, .int j]) → r xs H Q := fun z => by rw [h2 ds h z] at bk; exact bk.elim
  cases vs with
  | nil => exact no fun _ _ z => nomatch z
  | cons va t =>
    cases va with
    | int i =>
      cases t with
      | nil => exact no fun _ _ z => nomatch z
      | cons vb t =>
        cases vb with
        | int j =>
          cases t with
          | nil => exact h1 H μ h i j Q W hr bk
          | cons _ _ => exact no fun _ _ z => nomatch z
        | _ => exact no fun _ _ z => nomatch z
    | _ => exact no fun _ _ z => nomatch z
theorem two_bad {f : List D → MH → R D} (hf : ∀ (ds : List D) (h : MH), match ds with | [D.int _, D.int _] => True | _ => f ds h = .bad) : ∀ ds h, (∀ i j, ds ≠ [.int i, .int j]) → f ds h = .bad := fun ds h z => by
  have := hf ds h
  split at this
  · exact absurd rfl (z _ _)
  · exact this
theorem sn_max : SN g (fun xs H Q => ∃ i j, xs = [.int i, .int j] ∧ Q (.int (if j > i then j else i)) H) dMax := sn2i (fun H μ h i j Q W hr bk => ⟨i, j, rfl, bk.val hr (.int _)⟩) (two_bad fun ds h => by split <;> first | trivial | (unfold dMax; split <;> first | rfl | simp_all))
theorem sn_min : SN g (fun xs H Q => ∃ i j, xs = [.int i, .int j] ∧ Q (.int (if j < i then j else i)) H) dMin := sn2i (fun H μ h i j Q W hr bk => ⟨i, j, rfl, bk.val hr (.int _)⟩) (two_bad fun ds h => by split <;> first | trivial | (unfold dMin; split <;> first | rfl | simp_all))
end

/-! ### isinstance against built-in types -/
def tyName (h : MH) : D → Option String
  | .non => some "NoneType" | .bl _ => some "bool" | .int _ => some "int" | .str _ => some "str" | .tup _ => some "tuple"
  | .ref i => match h[i]? with
    | some (.lst _) => some "list"
    | some (.rol _) => some "list"
    | some (.dK _) => some "dict"
    | _ => none
  | .xo _ _ _ => none
def mIsi (T : String) (a : ME) : ME := fun ρ h => (a ρ h).bind fun x h1 => match (tyName h1 x).bind fun n => kitB n T with
  | some b => .ok (.bl b) h1
  | none => .bad
section
variable {X : Cx} {g : G} {W : WX} {a : Expr} {ma : ME} {pos : Pos}
theorem HR.ty {H : Hp} {μ : List Addr} {h : MH} {x : V} {d : D} {n : String} (hr : HR g H μ h) (vx : VR g H μ x d) (e : tyName h d = some n) : TyX g.K H x (.type n) := by
  cases vx with
  | xo _ _ _ _ => cases e
  | non => cases e; exact .base .non
  | bl b => cases e; exact .base (.bl b)
  | int i => cases e; exact .base (.int i)
  | str z => cases e; exact .base (.str z)
  | tup hs vs =>
    cases e
    rcases hs with ⟨o, _, hs⟩ | ⟨o, its, k, h1, h2, h3⟩
    · exact .fTuple hs
    · exact .kTuple h1 h2
  | ref hi =>
    simp only [tyName] at e
    split at e
    · rename_i l q
      cases e
      obtain ⟨xs, h1, _⟩ := hr.ob _ _ _ hi q
      exact .base (.lst h1)
    · rename_i l q
      cases e
      obtain ⟨xs, h1, _⟩ := hr.ob _ _ _ hi q
      rcases h1 with ⟨o, h1⟩ | ⟨o, its, k, h1, h2, h3⟩
      · exact .base (.frz h1)
      · exact .kList h1 h2
    · rename_i l q
      cases e
      obtain ⟨xs, h1, _⟩ := hr.ob _ _ _ hi q
      exact .base (.dK h1)
    · cases e
theorem se_isi {T : Str} {n : String} {p p2 : Pos} (ha : PE X a (tE g W ma)) (hm : X.mg "isinstance" = none) (hmT : X.mg T = none) (hvT : bootBuiltins T = some (.type n)) (hnT : T ≠ "__name__" := by decide) (hdT : (T == ("__debug__" : Str)) = false := by decide) (hg : Gl X "isinstance" := by rfl) (hgT : Gl X T := by rfl)
    (hK : X.K = g.K := by rfl)
    (s1 : starEach [a, .Name T p2] X.env = (false, eval a X.env) :: starEach [.Name T p2] X.env := by rfl) (s2 : starEach [.Name T p2] X.env = (false, eval (.Name T p2) X.env) :: starEach [] X.env := by rfl)
    (hpl : (backTo pos (starEach [.Name T p2] X.env)).any (·.1) = false := by rfl) : PE X (.Call (.Name "isinstance" p) [a, .Name T p2] [] pos) (tE g W (mIsi n ma)) :=
  pe_mono (pe_callB call_isi hg hm (by decide +kernel) (pa_cons ha (pa_cons (pe_bltn (v := .ty n) hgT hmT hvT rfl hnT hdT) pa_nil s2) s1) (by decide) (by decide) s1 hpl) fun σ H Q ⟨ρ, h, μ, sr, hr, bk⟩ =>
    step (rel := VR) (rel' := VR) (ma := ma) (Q' := Q) sr hr bk fun x d h1 H1 μ1 m1 sr1 hr1 vx bk1 => by
      split at bk1
      · rename_i b q
        obtain ⟨t, q1, q2⟩ := Option.bind_eq_some_iff.mp q
        refine ⟨x, .ty n, .type t, .type n, b, rfl, .ty n, ?_, kit_ty q2, bk1.val hr1 (.bl b)⟩
        rw [hK]
        exact hr1.ty vx q1
      · exact bk1.elim
end

/-! ### methods of built-in types -/
section
variable {X : Cx} {g : G} {W : WX} {o e : Expr} {mo : ME} {es : List Expr} {mr : MA} {name : Str} {apos cpos : Pos} {T id : String} {r : V → List V → Hp → VK → Prop} {f : D → List D → MH → R D} {ty : D → MH → Bool}
/-- how the type is seen -/
def STy (g : G) (T : String) (ty : D → MH → Bool) : Prop := ∀ (H : Hp) (μ : List Addr) (h : MH) (x : V) (a : D), HR g H μ h → VR g H μ x a → ty a h = true → tyV g.K T x H
theorem sty_list : STy g "list" isListD := fun H μ h x a hr va e => by
  cases va with
  | ref hi =>
    obtain ⟨l, q⟩ := Option.isSome_iff_exists.mp e
    obtain ⟨xs, hs, _⟩ := hr.list hi q
    exact .inl ⟨rfl, xs, hs⟩
  | _ => cases e
theorem sty_str : STy g "str" isStrD := fun H μ h x a hr va e => by
  cases va with
  | str z => exact (rfl : "str" = "str")
  | _ => cases e
theorem se_bm (pa : PlainAttrs T) (slot : Slot T name id) (hty : typeOf (.builtin id) = pure (.type "method_descriptor")) (hm : MtR X id r) (st : STy g T ty) (hs : SM g r f) (ho : PE X o (tE g W mo)) (ha : PA X (e :: es) (tA g W mr)) (hK : X.K = g.K := by rfl)
    (hbase : attributeBase o name X.env (eval o X.env) = eval o X.env := by rfl)
    (hfew : ((backTo cpos (starEach (e :: es) X.env)).all (fun x => !x.1) && (backToKw cpos (keywordEach [] X.env)).all (fun x => x.1.isSome)
      && decide ((e :: es).length + ([] : List Keyword).length + (if ([] : List Keyword).isEmpty then 0 else 1) < 30)) = true := by rfl)
    (hline : (apos.endLine == cpos.line) = true := by rfl) (hse : starEach (e :: es) X.env = (false, eval e X.env) :: starEach es X.env := by rfl) (hplain : (backTo cpos (starEach es X.env)).any (·.1) = false := by rfl) :
    PE X (.Call (.Attribute o name apos) (e :: es) [] cpos) (tE g W (mMeth ty f mo mr)) :=
  pe_mono (pe_bm pa slot hty hm ho ha hbase hfew hline hse hplain) fun σ H Q ⟨ρ, h, μ, sr, hr, bk⟩ =>
    step (rel := VR) (rel' := VR) (ma := mo) (Q' := Q) sr hr bk fun x d h1 H1 μ1 m1 sr1 hr1 vx bk1 => by
      split at bk1
      · rename_i ht
        refine ⟨by rw [hK]; exact st H1 μ1 h1 x d hr1 vx ht, ?_⟩
        exact step (rel := VRs) (rel' := VR) (ma := mr) (Q' := Q) sr1 hr1 bk1 fun xs ds h2 H2 μ2 m2 sr2 hr2 vs bk2 => hs H2 μ2 h2 x xs d ds Q _ hr2 (vx.mono m2) vs bk2
      · exact bk1.elim
theorem se_bm0 (pa : PlainAttrs T) (slot : Slot T name id) (hty : typeOf (.builtin id) = pure (.type "method_descriptor")) (hm : MtR X id r) (st : STy g T ty) (hs : SM g r f) (ho : PE X o (tE g W mo)) (hK : X.K = g.K := by rfl)
    (hbase : attributeBase o name X.env (eval o X.env) = eval o X.env := by rfl) (hline : (apos.endLine == cpos.line) = true := by rfl) : PE X (.Call (.Attribute o name apos) [] [] cpos) (tE g W (mMeth ty f mo mNil)) :=
  pe_mono (pe_bm0 pa slot hty hm ho hbase hline) fun σ H Q ⟨ρ, h, μ, sr, hr, bk⟩ =>
    step (rel := VR) (rel' := VR) (ma := mo) (Q' := Q) sr hr bk fun x d h1 H1 μ1 m1 sr1 hr1 vx bk1 => by
      split at bk1
      · rename_i ht
        exact ⟨by rw [hK]; exact st H1 μ1 h1 x d hr1 vx ht, hs H1 μ1 h1 x [] d [] Q _ hr1 vx .nil bk1⟩
      · exact bk1.elim
def dAppend : D → List D → MH → R D
  | .ref i, [d], h => match h[i]? with
    | some (.lst l) => if l.length < 1000000 then .ok .non (h.set i (.lst (l ++ [d]))) else .bad
    | _ => .bad
  | _, _, _ => .bad
theorem sm_append : SM g rAppend dAppend := by
  intro H μ h x xs a ds Q W hr va vs bk
  unfold dAppend at bk
  split at bk
  · rename_i i d
    cases va with
    | @ref p _ hi =>
      cases vs with
      | cons vd t =>
        cases t
        split at bk
        · rename_i l q
          split at bk
          · rename_i hl
            obtain ⟨ys, h1, h2⟩ := hr.lst hi q
            exact ⟨p, ys, _, rfl, rfl, h1, by rw [h2.length]; exact sz6' hl, bk.setL hr hi q h1 (h2.append (.one vd)) .non⟩
          · exact bk.elim
        · exact bk.elim
  · exact bk.elim
def dExtend : D → List D → MH → R D
  | .ref i, [.ref j], h => match h[i]?, h[j]? with
    | some (.lst l), some (.lst m) => if l.length + m.length ≤ 1000000 then .ok .non (h.set i (.lst (l ++ m))) else .bad
    | _, _ => .bad
  | _, _, _ => .bad
theorem sm_extend : SM g rExtend dExtend := by
  intro H μ h x xs a ds Q W hr va vs bk
  unfold dExtend at bk
  split at bk
  · rename_i i j
    cases va with
    | @ref p _ hi =>
      cases vs with
      | cons vd t =>
        cases t
        cases vd with
        | @ref q _ hj =>
          split at bk
          · rename_i l m q1 q2
            split at bk
            · rename_i hl
              obtain ⟨ys, h1, h2⟩ := hr.lst hi q1
              obtain ⟨zs, h3, h4⟩ := hr.lst hj q2
              exact ⟨p, q, ys, zs, rfl, rfl, h1, h3, by rw [h2.length, h4.length]; exact sz6 hl, bk.setL hr hi q1 h1 (h2.append h4) .non⟩
            · exact bk.elim
          · exact bk.elim
  · exact bk.elim
def dPop : D → List D → MH → R D
  | .ref i, [], h => match h[i]? with
    | some (.lst l) => match l[l.length - 1]? with
      | some d => .ok d (h.set i (.lst l.dropLast))
      | none => .bad
    | _ => .bad
  | _, _, _ => .bad
theorem sm_pop : SM g rPop dPop := by
  intro H μ h x xs a ds Q W hr va vs bk
  unfold dPop at bk
  split at bk
  · rename_i i
    cases va with
    | @ref p _ hi =>
      cases vs
      split at bk
      · rename_i l q
        split at bk
        · rename_i d e
          obtain ⟨ys, h1, h2⟩ := hr.lst hi q
          rw [← h2.length] at e
          obtain ⟨v, e1, e2⟩ := h2.get e
          exact ⟨p, ys, v, rfl, rfl, h1, e1, bk.setL hr hi q h1 h2.dropLast e2⟩
        · exact bk.elim
      · exact bk.elim
  · exact bk.elim
def allStr : List D → Option (List Str)
  | [] => some []
  | .str b :: r => (allStr r).map (b :: ·)
  | _ => none
theorem strs_of {H : Hp} {μ : List Addr} : ∀ {xs : List V} {ds : List D} {bs : List Str}, VRs g H μ xs ds → allStr ds = some bs → xs = bs.map V.str
  | _, _, _, .nil, e => by cases e; rfl
  | _, _, _, .cons (d := d) a b, e => by
    cases a with
    | str k =>
      simp only [allStr, Option.map_eq_some_iff] at e
      obtain ⟨r, e, rfl⟩ := e
      rw [strs_of b e]; rfl
    | _ => cases e
def dJoin : D → List D → MH → R D
  | .str a, [b], h => match (seqOf h b).bind allStr with
    | some ys => if (ys.map (·.length)).sum + ys.length * a.length ≤ 1000000 then .ok (.str (Txt.join a ys)) h else .bad
    | none => .bad
  | _, _, _ => .bad
theorem sm_join : SM g (fun x xs H Q => ∃ a p, ∃ ys : List Str, x = .str a ∧ xs = [.ref p] ∧ (SqL g.K H p (ys.map V.str) ∨ SqT g.K H p (ys.map V.str)) ∧ (ys.map (·.length)).sum + ys.length * a.length ≤ 16777216 ∧ Q (.str (Txt.join a ys)) H) dJoin := by
  intro H μ h x xs a ds Q W hr va vs bk
  unfold dJoin at bk
  split at bk
  · rename_i z b
    cases va
    cases vs with
    | @cons v _ _ _ vd t =>
      cases t
      split at bk
      · rename_i ys q
        obtain ⟨l, q1, q2⟩ := Option.bind_eq_some_iff.mp q
        have hy : ∃ p, v = .ref p := by cases vd <;> first | exact ⟨_, rfl⟩ | cases q1
        obtain ⟨p, rfl⟩ := hy
        obtain ⟨zs, h1, h2⟩ := hr.seq vd q1
        split at bk
        · rename_i c
          refine ⟨z, p, ys, rfl, rfl, ?_, by omega, bk.val hr (.str _)⟩
          rw [← strs_of h2 q2]
          exact h1
        · exact bk.elim
      · exact bk.elim
  · exact bk.elim
end
end Mi
namespace Mi
open PySem L2

/-! ### targets -/
abbrev MG := D → Slots → Option Slots
abbrev Rl := G → Hp → List Addr → V → D → Prop
/-- a pair that a walk has just laid: its items alone are known -/
def SV : Rl := fun g H μ v d => ∃ p xs ds, v = .ref p ∧ d = .tup ds ∧ SqT g.K H p xs ∧ VRs g H μ xs ds
def tGr (rl : Rl) (g : G) (m : MG) : TG := fun v σ H Q => ∃ ρ h μ d, SR g H μ σ ρ ∧ HR g H μ h ∧ rl g H μ v d ∧ match m d ρ with
  | some ρ' => ∀ σ', SR g H μ σ' ρ' → Q σ' H
  | none => False
abbrev tG (g : G) (m : MG) : TG := tGr VR g m
abbrev MGs := List D → Slots → Option Slots
def tGs (g : G) (m : MGs) : TGs := fun vs σ H Q => ∃ ρ h μ ds, SR g H μ σ ρ ∧ HR g H μ h ∧ VRs g H μ vs ds ∧ match m ds ρ with
  | some ρ' => ∀ σ', SR g H μ σ' ρ' → Q σ' H
  | none => False
def mgName (i : Nat) : MG := fun d ρ => some (ρ.set i (some d))
def mgNil : MGs := fun ds ρ => match ds with
  | [] => some ρ
  | _ => none
def mgCons (a : MG) (r : MGs) : MGs := fun ds ρ => match ds with
  | d :: ds => (a d ρ).bind fun ρ' => r ds ρ'
  | [] => none
def mgTup (r : MGs) : MG := fun d ρ => match d with
  | .tup ds => r ds ρ
  | _ => none
section
variable {X : Cx} {g : G} {pos : Pos}
theorem pg_mono {tg : Expr} {t t' : TG} (h : PG X tg t) (hm : ∀ v σ H Q, t' v σ H Q → t v σ H Q) : PG X tg t' := ⟨fun pins s σ H v u Q I r q => h.run pins s σ H v u Q I r (hm v σ H Q q)⟩
theorem sg_name {i : Nat} {x : Str} (hN : X.N.Nodup) (hi : X.N[i]? = some x := by rfl) (hx : Loc X.env.scope x := by first | exact Or.inl rfl | exact Or.inr rfl) (hf : X.fn x = true ∨ X.env.scope.names.lookup x = some .local := by first | exact .inl rfl | exact .inr rfl | assumption) : PG X (.Name x pos) (tG g (mgName i)) :=
  pg_mono (pg_name hN hi hx hf) fun v σ H Q ⟨ρ, h, μ, d, sr, hr, vd, q⟩ => q _ (sr.set i vd)
/-- how many places a target has -/
def MGs.many (n : Nat) (m : MGs) : Prop := ∀ ds ρ ρ', m ds ρ = some ρ' → ds.length = n
end

/-! ### what is walked -/
def JRr (rl : Rl) (g : G) (H0 : Hp) (μ0 : List Addr) (J : It) (a : List D × (MH → Bool)) : Prop := ∀ (i : Nat) (H : Hp) (μ : List Addr) (h : MH), Mon g H0 H μ0 μ → HR g H μ h → a.2 h = true →
  (i < a.1.length → J.go i H ∧ ∀ x H', J.yld i H x H' → ∃ d, a.1[i]? = some d ∧ Mon g H H' μ μ ∧ HR g H' μ h ∧ rl g H' μ x d) ∧ (a.1.length ≤ i → J.stop i H)
abbrev JR := JRr VR
abbrev MI := Slots → MH → R (List D × (MH → Bool))
abbrev tIr (rl : Rl) (g : G) (W : WX) (m : MI) : TI := tX (JRr rl) g W m
abbrev tI (g : G) (W : WX) (m : MI) : TI := tIr VR g W m
def yes : MH → Bool := fun _ => true
/-- the items of a list (as it stands), a tuple, a text -/
def itemsOf (a : D) (h : MH) : Option (List D × (MH → Bool)) := match a with
  | .tup l => some (l, yes)
  | .ref i => (getL h i).map fun l => (l, fun h' => decide (getL h' i = some l))
  | .str z => some (z.cps.toList.map fun c => .str ⟨#[c]⟩, yes)
  | _ => none
def mIter (a : ME) : MI := fun ρ h => (a ρ h).bind fun x h1 => match itemsOf x h1 with
  | some r => .ok r h1
  | none => .bad
def rangeD (i : Int) (n : Nat) : List D := (List.range n).map fun (k : Nat) => D.int (i + (k : Int))
def revRangeD (i : Int) (n : Nat) : List D := (List.range n).map fun (k : Nat) => D.int (i + (n : Int) - 1 - (k : Int))
def lim62 (i : Int) : Bool := decide (-(2 ^ 62) ≤ i) && decide (i < 2 ^ 62)
def dR1 (f : Int → Nat → List D) (x : D) (h : MH) : R (List D × (MH → Bool)) := match x with
  | .int j => if lim62 j = true then .ok (f 0 j.toNat, yes) h else .bad
  | _ => .bad
def dR2 (f : Int → Nat → List D) (x y : D) (h : MH) : R (List D × (MH → Bool)) := match x, y with
  | .int i, .int j => if lim62 i = true ∧ lim62 j = true then .ok (f i (j - i).toNat, yes) h else .bad
  | _, _ => .bad
def mRange1 (a : ME) : MI := fun ρ h => (a ρ h).bind fun x h1 => dR1 rangeD x h1
def mRange2 (a b : ME) : MI := fun ρ h => (a ρ h).bind fun x h1 => (b ρ h1).bind fun y h2 => dR2 rangeD x y h2
def mRev1 (a : ME) : MI := fun ρ h => (a ρ h).bind fun x h1 => dR1 revRangeD x h1
def mRev2 (a b : ME) : MI := fun ρ h => (a ρ h).bind fun x h1 => (b ρ h1).bind fun y h2 => dR2 revRangeD x y h2
section
variable {X : Cx} {g : G} {W : WX} {a b e : Expr} {ma mb : ME} {pos : Pos} {tg : Expr}
theorem pi_mono {t t' : TI} (h : PI X tg e t) (hm : ∀ σ H R, t' σ H R → t σ H R) : PI X tg e t' := ⟨fun pins s σ H R I q => h.run pins s σ H R I (hm σ H R q)⟩
theorem pi_or2 {t u : TI} (h : PI X tg e t) (h' : PI X tg e u) : PI X tg e (fun σ H R => t σ H R ∨ u σ H R) := ⟨fun pins s σ H R I q => by
  rcases q with q | q
  · exact h.run pins s σ H R I q
  · exact h'.run pins s σ H R I q⟩
theorem jr_list {H0 : Hp} {μ0 : List Addr} {p : Addr} {i : Nat} {l : List D} (hi : μ0[i]? = some p) : JR g H0 μ0 (Itl g.K p) (l, fun h' => decide (getL h' i = some l)) := fun k H μ h m hr gd => by
  have q : getL h i = some l := of_decide_eq_true gd
  obtain ⟨xs, hs, vs⟩ := hr.list (m.ix hi) q
  refine ⟨fun lt => ?_, fun le => ⟨xs, hs, by rw [vs.length]; exact le⟩⟩
  have hx : l[k]? = some l[k] := List.getElem?_eq_getElem lt
  obtain ⟨v, h1, h2⟩ := vs.get hx
  refine ⟨⟨xs, v, hs, h1⟩, fun x H' y => ?_⟩
  obtain ⟨e, y⟩ := y
  subst e
  have := y xs hs
  rw [h1] at this
  cases this
  exact ⟨_, hx, Mon.refl, hr, h2⟩
theorem jr_tup {H0 : Hp} {μ0 : List Addr} {p : Addr} {xs : List V} {l : List D} (hs : Tk g.K H0 p xs) (vs : VRs g H0 μ0 xs l) : JR g H0 μ0 (Itt g.K p) (l, yes) := fun k H μ h m hr _ => by
  have hs := (m.tups _ _ hs).sq
  have vs := vs.mono m
  refine ⟨fun lt => ?_, fun le => ⟨xs, hs, by rw [vs.length]; exact le⟩⟩
  have hx : l[k]? = some l[k] := List.getElem?_eq_getElem lt
  obtain ⟨v, h1, h2⟩ := vs.get hx
  refine ⟨⟨xs, v, hs, h1⟩, fun x H' y => ?_⟩
  obtain ⟨e, y⟩ := y
  subst e
  have := y xs hs
  rw [h1] at this
  cases this
  exact ⟨_, hx, Mon.refl, hr, h2⟩
theorem jr_str {H0 : Hp} {μ0 : List Addr} {z : Str} : JR g H0 μ0 (Its z) (z.cps.toList.map fun c => .str ⟨#[c]⟩, yes) := fun k H μ h m hr _ => by
  refine ⟨fun lt => ?_, fun le => ?_⟩
  · have lt' : k < z.cps.size := by simpa using lt
    refine ⟨lt', fun x H' y => ?_⟩
    obtain ⟨e, c, hc, ex⟩ := y
    subst e ex
    refine ⟨.str ⟨#[c]⟩, ?_, Mon.refl, hr, .str _⟩
    rw [List.getElem?_map, Array.getElem?_toList, hc]
    rfl
  · have : z.cps.size ≤ k := by simpa using le
    exact this
theorem jr_range {H0 : Hp} {μ0 : List Addr} {lo : Int} {n : Nat} : JR g H0 μ0 (Itr lo n) (rangeD lo n, yes) := fun k H μ h m hr _ => by
  refine ⟨fun lt => ?_, fun le => ?_⟩
  · have lt' : k < n := by simpa [rangeD] using lt
    refine ⟨lt', fun x H' y => ?_⟩
    obtain ⟨e, ex⟩ := y
    subst e ex
    refine ⟨.int (lo + (k : Int)), ?_, Mon.refl, hr, .int _⟩
    simp [rangeD, lt']
  · have : n ≤ k := by simpa [rangeD] using le
    exact this
theorem jr_rev {H0 : Hp} {μ0 : List Addr} {lo : Int} {n : Nat} : JR g H0 μ0 (Itc (lo + (n : Int) - 1) (-1) n) (revRangeD lo n, yes) := fun k H μ h m hr _ => by
  refine ⟨fun lt => ?_, fun le => ?_⟩
  · have lt' : k < n := by simpa [revRangeD] using lt
    refine ⟨lt', fun x H' y => ?_⟩
    obtain ⟨e, ex⟩ := y
    subst e ex
    refine ⟨.int (lo + (n : Int) - 1 - (k : Int)), ?_, Mon.refl, hr, ?_⟩
    · simp [revRangeD, lt']
    · have e : lo + (n : Int) - 1 + ((k : Nat) : Int) * (-1) = lo + (n : Int) - 1 - (k : Int) := by omega
      rw [e]
      exact .int _
  · have : n ≤ k := by simpa [revRangeD] using le
    exact this
theorem si_iter (he : PE X e (tE g W ma)) (hK : X.K = g.K := by rfl) : PI X tg e (tI g W (mIter ma)) :=
  pi_mono (pi_or2 (pi_list he) (pi_or2 (pi_tup he) (pi_str he))) fun σ H R ⟨ρ, h, μ, sr, hr, bk⟩ => by
    have use : ∀ (Q : VK), (∀ x d h1 H1 μ1, ma ρ h = .ok d h1 → Mon g H H1 μ μ1 → HR g H1 μ1 h1 → VR g H1 μ1 x d → Bk (JR g) g H1 μ1 (match itemsOf d h1 with | some r => Mi.R.ok r h1 | none => .bad) R (fun c d H' => W c d σ H') → Q x H1) → tE g W ma σ H Q := fun Q k =>
      ⟨ρ, h, μ, sr, hr, Bk.bind bk fun a h1 b H1 μ1 e m hr1 hv bk1 => k b a h1 H1 μ1 e m hr1 hv bk1⟩
    rw [hK]
    unfold mIter at bk
    cases e : ma ρ h with
    | bad => rw [e] at bk; exact bk.elim
    | exc x fs h' => exact .inl (use _ fun x d h1 H1 μ1 e' => by rw [e] at e'; cases e')
    | ok d h1 =>
      cases d with
      | tup l =>
        refine .inr (.inl (use _ fun x d h1 H1 μ1 e' m hr1 vx bk1 => ?_))
        rw [e] at e'
        cases e'
        cases vx with
        | @tup p xs ds hs vs => exact ⟨p, rfl, ⟨xs, hs.sq⟩, bk1 _ H1 μ1 Mon.refl hr1 (jr_tup hs vs)⟩
      | str z =>
        refine .inr (.inr (use _ fun x d h1 H1 μ1 e' m hr1 vx bk1 => ?_))
        rw [e] at e'
        cases e'
        cases vx
        exact ⟨z, rfl, bk1 _ H1 μ1 Mon.refl hr1 jr_str⟩
      | ref i =>
        refine .inl (use _ fun x d h1 H1 μ1 e' m hr1 vx bk1 => ?_)
        rw [e] at e'
        cases e'
        cases vx with
        | @ref p _ hi =>
          simp only [itemsOf] at bk1
          cases q : getL h1 i with
          | none => rw [q] at bk1; exact bk1.elim
          | some l =>
            rw [q] at bk1
            obtain ⟨xs, hs, vs⟩ := hr1.list hi q
            exact ⟨p, rfl, ⟨xs, hs⟩, bk1 _ H1 μ1 Mon.refl hr1 (jr_list hi)⟩
      | _ => rw [e] at bk; exact bk.elim
theorem lim_of {i : Int} (h : lim62 i = true) : -(2 ^ 62) ≤ i ∧ i < 2 ^ 62 := by
  unfold lim62 at h
  rw [Bool.and_eq_true] at h
  exact ⟨of_decide_eq_true h.1, of_decide_eq_true h.2⟩
theorem si_range1 {p : Pos} (hm : X.mg "range" = none) (ha : PE X a (tE g W ma)) (hg : Gl X "range" := by rfl) (hs : starEach [a] X.env = [(false, eval a X.env)] := by rfl) : PI X tg (.Call (.Name "range" p) [a] [] pos) (tI g W (mRange1 ma)) :=
  pi_mono (pi_range1 hg hm (pa_cons ha pa_nil hs) hs) fun σ H R ⟨ρ, h, μ, sr, hr, bk⟩ => step (rel := VR) (rel' := JR) (ma := ma) (Q' := R) sr hr bk fun x d h1 H1 μ1 m1 sr1 hr1 vx bk1 => by
    cases vx with
    | int j =>
      simp only [dR1] at bk1
      split at bk1
      · rename_i l
        exact ⟨j, rfl, (lim_of l).1, (lim_of l).2, bk1 _ H1 μ1 Mon.refl hr1 jr_range⟩
      · exact bk1.elim
    | _ => exact bk1.elim
theorem si_range2 {p : Pos} (hm : X.mg "range" = none) (ha : PE X a (tE g W ma)) (hb : PE X b (tE g W mb)) (hg : Gl X "range" := by rfl) (hs : starEach [a, b] X.env = [(false, eval a X.env), (false, eval b X.env)] := by rfl) (hs2 : starEach [b] X.env = [(false, eval b X.env)] := by rfl) : PI X tg (.Call (.Name "range" p) [a, b] [] pos) (tI g W (mRange2 ma mb)) :=
  pi_mono (pi_range2 hg hm (pa_cons ha (pa_cons hb pa_nil hs2) (by rw [hs, hs2])) hs hs2) fun σ H R ⟨ρ, h, μ, sr, hr, bk⟩ => step (rel := VR) (rel' := JR) (ma := ma) (Q' := R) sr hr bk fun x d h1 H1 μ1 m1 sr1 hr1 vx bk1 =>
    step (rel := VR) (rel' := JR) (ma := mb) (Q' := R) sr1 hr1 bk1 fun y d2 h2 H2 μ2 m2 sr2 hr2 vy bk2 => by
      cases vx with
      | int i =>
        cases vy with
        | int j =>
          simp only [dR2] at bk2
          split at bk2
          · rename_i l
            exact ⟨i, j, rfl, ⟨(lim_of l.1).1, (lim_of l.1).2, (lim_of l.2).1, (lim_of l.2).2⟩, bk2 _ H2 μ2 Mon.refl hr2 jr_range⟩
          · exact bk2.elim
        | _ => exact bk2.elim
      | _ => exact bk2.elim
theorem si_rev1 {p p2 pos2 : Pos} (hmr : X.mg "reversed" = none) (hm : X.mg "range" = none) (ha : PE X a (tE g W ma)) (hgr : Gl X "reversed" := by rfl) (hg : Gl X "range" := by rfl) (na : starEach [a] X.env = (false, eval a X.env) :: starEach [] X.env := by rfl)
    (hs : starEach [.Call (.Name "range" p2) [a] [] pos2] X.env = (false, eval (.Call (.Name "range" p2) [a] [] pos2) X.env) :: starEach [] X.env := by rfl) : PI X tg (.Call (.Name "reversed" p) [.Call (.Name "range" p2) [a] [] pos2] [] pos) (tI g W (mRev1 ma)) :=
  pi_mono (pi_revR hgr hmr (prg_1 hg hm ha na) hs) fun σ H R ⟨ρ, h, μ, sr, hr, bk⟩ => step (rel := VR) (rel' := JR) (ma := ma) (Q' := R) sr hr bk fun x d h1 H1 μ1 m1 sr1 hr1 vx bk1 => by
    cases vx with
    | int j =>
      simp only [dR1] at bk1
      split at bk1
      · rename_i l
        have e : (j - 0).toNat = j.toNat := by rw [Int.sub_zero]
        refine ⟨j, rfl, by decide, by decide, (lim_of l).1, (lim_of l).2, ?_⟩
        have q := jr_rev (g := g) (H0 := H1) (μ0 := μ1) (lo := 0) (n := j.toNat)
        rw [e]
        exact bk1 _ H1 μ1 Mon.refl hr1 q
      · exact bk1.elim
    | _ => exact bk1.elim
end

/-! ### for -/
def forGo (gd : MH → Bool) (tg : MG) (body : MS) : List D → Slots → MH → Out
  | [], ρ, h => if gd h = true then .nx ρ h else .bad
  | d :: ds, ρ, h => if gd h = true then match tg d ρ with
    | some ρ1 => match body ρ1 h with
      | .nx ρ' h' => forGo gd tg body ds ρ' h'
      | .ct ρ' h' => forGo gd tg body ds ρ' h'
      | .bk ρ' h' => .nx ρ' h'
      | .rt d h' => .rt d h'
      | .exc x fs ρ' h' => .exc x fs ρ' h'
      | .bad => .bad
    | none => .bad else .bad
def mFor (it : MI) (tg : MG) (body : MS) : MS := fun ρ h => (it ρ h).out ρ fun a h1 => forGo a.2 tg body a.1 ρ h1
def whGo (c : MT) (body : MS) : Nat → Slots → MH → Out
  | 0, _, _ => .bad
  | n + 1, ρ, h => (c ρ h).out ρ fun b h1 => if b = true then match body ρ h1 with
    | .nx ρ' h' => whGo c body n ρ' h'
    | .ct ρ' h' => whGo c body n ρ' h'
    | .bk ρ' h' => .nx ρ' h'
    | .rt d h' => .rt d h'
    | .exc x fs ρ' h' => .exc x fs ρ' h'
    | .bad => .bad else .nx ρ h1
def mWhile (n : Nat) (c : MT) (body : MS) : MS := fun ρ h => whGo c body n ρ h
section
variable {X : Cx} {g : G} {W : WX} {pos : Pos} {tg iter : Expr} {mi : MI} {mt : MG} {mb : MS} {body : List Stmt} {rl : Rl}
theorem sx_for (hp : PassesOwn (model X.prog X.w) X.A X.env X.xe) (hi : PI X tg iter (tIr rl g W mi)) (hg : PG X tg (tGr rl g mt)) (hb : PSs X body (tS g W mb)) (hc : X.calm = true := by rfl) (hs : ∀ x, foldedSetIterable iter X.env x = pure x := by intro _; rfl) :
    PS X (.For tg iter body [] pos) (tS g W (mFor mi mt mb)) :=
  ps_mono (ps_for hp hc hi hg hb hs) fun E σ H ⟨ρ, h, μ, sr, hr, bk⟩ => stepS (rel := JRr rl) (ma := mi) (E := E) sr hr bk fun J a h1 H1 μ1 m1 sr1 hr1 jr bk1 => by
    refine ⟨fun i m σ' H' => m = a.1.length - i ∧ i ≤ a.1.length ∧ ∃ ρ' h' μ', Mon g H1 H' μ1 μ' ∧ SR g H' μ' σ' ρ' ∧ HR g H' μ' h' ∧ BkS g H' μ' (forGo a.2 mt mb (a.1.drop i) ρ' h') E W, ⟨a.1.length, by simp, Nat.zero_le _, ρ, h1, μ1, Mon.refl, sr1, hr1, by simpa using bk1⟩, ?_⟩
    rintro i m σ' H' ⟨rfl, hi, ρ', h', μ', m', sr', hr', bk'⟩
    by_cases hlt : i < a.1.length
    · have ed : a.1.drop i = a.1[i] :: a.1.drop (i + 1) := List.drop_eq_getElem_cons hlt
      rw [ed] at bk'
      unfold forGo at bk'
      split at bk'
      · rename_i gd
        obtain ⟨jg, _⟩ := jr i H' μ' h' m' hr' gd
        obtain ⟨go, yl⟩ := jg hlt
        refine .inr ⟨go, fun σ2 H2 => i + 1 ≤ a.1.length ∧ ∃ ρ2 h2 μ2, Mon g H1 H2 μ1 μ2 ∧ SR g H2 μ2 σ2 ρ2 ∧ HR g H2 μ2 h2 ∧ BkS g H2 μ2 (forGo a.2 mt mb (a.1.drop (i + 1)) ρ2 h2) E W, fun σ2 H2 q => ⟨a.1.length - (i + 1), by omega, rfl, q.1, q.2⟩, fun x Hy y => ?_⟩
        obtain ⟨d, hd, my, hry, vy⟩ := yl x Hy y
        rw [List.getElem?_eq_getElem hlt] at hd
        cases hd
        refine ⟨ρ', h', μ', _, sr'.mono my, hry, vy, ?_⟩
        split at bk'
        · rename_i ρ1 e1
          intro σ3 sr3
          refine ⟨ρ1, h', μ', sr3, hry, ?_⟩
          have mm := m'.trans my
          cases e2 : mb ρ1 h' with
          | nx ρ4 h4 => rw [e2] at bk'; exact fun σ4 H4 μ4 m4 sr4 hr4 => ⟨hlt, ρ4, h4, μ4, mm.trans m4, sr4, hr4, BkS.mono (my.trans m4) bk'⟩
          | ct ρ4 h4 => rw [e2] at bk'; exact fun σ4 H4 μ4 m4 sr4 hr4 => ⟨hlt, ρ4, h4, μ4, mm.trans m4, sr4, hr4, BkS.mono (my.trans m4) bk'⟩
          | bk ρ4 h4 => rw [e2] at bk'; exact BkS.mono my bk'
          | rt d4 h4 => rw [e2] at bk'; exact BkS.mono my bk'
          | exc x4 fs4 ρ4 h4 => rw [e2] at bk'; exact BkS.mono my bk'
          | bad => rw [e2] at bk'; exact bk'
        · exact bk'.elim
      · exact bk'.elim
    · have e : i = a.1.length := by omega
      subst e
      rw [List.drop_length] at bk'
      unfold forGo at bk'
      split at bk'
      · rename_i gd
        exact .inl ⟨(jr _ H' μ' h' m' hr' gd).2 (Nat.le_refl _), bk' σ' H' μ' Mon.refl sr' hr'⟩
      · exact bk'.elim
end

/-! ### a def by its body -/
def startD (n N : Nat) (ds : List D) : Slots := ds.map some ++ List.replicate (N - n) none
def mFun (n N : Nat) (body : MS) : List D → MH → R D := fun ds h => if ds.length = n then match body (startD n N ds) h with
  | .nx _ h' => .ok .non h'
  | .rt d h' => .ok d h'
  | .exc x fs _ h' => .exc x fs h'
  | _ => .bad else .bad
theorem spM_len {g : G} {n N : Nat} {body : MS} {vs : List V} {H : Hp} {Q : VK} {E : XK} (h : spM g (mFun n N body) vs H Q E) : vs.length = n := by
  obtain ⟨ds, hh, μ, v, hr, bk⟩ := h
  unfold mFun at bk
  split at bk
  · rename_i e; rw [v.length]; exact e
  · exact bk.elim
theorem spM_run {g : G} {ps N : List Str} {body : MS} {vs : List V} {H : Hp} {Q : VK} {E : XK} (h : spM g (mFun ps.length N.length body) vs H Q E) : tS g (fun c d _ H' => E c d H') body { nx := fun _ H' => Q .non H', rt := Q } (L2.start N vs) H := by
  have hl := spM_len h
  obtain ⟨ds, hh, μ, v, hr, bk⟩ := h
  unfold mFun at bk
  split at bk
  · rename_i e
    refine ⟨startD ps.length N.length ds, hh, μ, ?_, hr, ?_⟩
    · unfold L2.start startD
      rw [hl]
      exact SR.start _ v
    · cases q : body (startD ps.length N.length ds) hh with
      | nx ρ h' => rw [q] at bk; exact fun σ' H' μ' m sr hr' => bk .non H' μ' m hr' .non
      | rt d h' => rw [q] at bk; exact fun v H' μ' m hr' vd => bk v H' μ' m hr' vd
      | bk ρ h' => rw [q] at bk; exact bk.elim
      | ct ρ h' => rw [q] at bk; exact bk.elim
      | exc x fs ρ h' => rw [q] at bk; exact fun cls d σ' H' μ' m sr hr' xr => bk cls d H' μ' m hr' xr
      | bad => rw [q] at bk; exact bk
  · exact bk.elim
section
variable {P : Program} {w : World} {K : PySem.W.Frag} {mg : Str → Option Value} {base : Heap} {g : G}
theorem fn_mk {x qual : Str} {st : Stmt} {f : Addr} {fd : FuncData} {N ps : List Str} {k : Nat} {body : MS} (F : Fun K x qual st f fd) (S : FnScope N ps (defScope st))
    (hb : ∀ (cdv : Value) (A : Around) (outer : List Env) (s : Shared) (H : Hp) (E : XK), Room k (A.deeper (PyProof.Rows.envOfC qual (defScope st) s.heap.objs.size f cdv)) →
      PSs (cxOf (L2.CX P w) P w K mg base N qual (defScope st) f cdv A outer s H E) (defBody st) (tS g (fun c d _ H' => E c d H') body)) :
    FnOk P w K mg base (L2.CX P w) (k + 1) f fd ps (spM g (mFun ps.length N.length body)) :=
  F.okX S (fun vs H Q E h => spM_len h) fun cdv A outer s H vs Q E hr h => ⟨_, hb cdv A outer s H E hr, spM_run h⟩
theorem fn_none {f : Addr} {fd : FuncData} {ps : List Str} {k : Nat} {F : List D → MH → R D} (hF : ∀ ds h, F ds h = .bad) : FnOk P w K mg base (L2.CX P w) k f fd ps (spM g F) := by
  have no : ∀ vs H Q E, ¬ spM g F vs H Q E := fun vs H Q E ⟨ds, h, μ, _, _, bk⟩ => by rw [hF] at bk; exact bk
  exact ⟨fun vs H Q E h => absurd h (no vs H Q E), fun A outer s H args us vs Q E _ _ _ _ h => absurd h (no vs H Q E)⟩
end
end Mi
namespace Mi
open PySem L2

/-! ### list comprehensions -/
abbrev W0 : WX := fun _ _ _ _ => False
def mYes : MT := fun _ h => .ok true h
def wipeD (ρ : Slots) : List Nat → Slots
  | [] => ρ
  | v :: vs => (wipeD ρ vs).set v none
theorem SR.wipe {g : G} {H : Hp} {μ : List Addr} {σ : St} {ρ : Slots} (h : SR g H μ σ ρ) : ∀ vs : List Nat, SR g H μ (L2.wipe σ vs) (wipeD ρ vs)
  | [] => h
  | v :: vs => (SR.wipe h vs).unset v none
def lcGo (gd : MH → Bool) (tg : MG) (tt : MT) (te : ME) (c : Nat) (ρ : Slots) : List D → MH → R D
  | [], h => if gd h = true then .ok (.ref c) h else .bad
  | d :: ds, h => if gd h = true then match tg d ρ with
    | some ρ1 => match tt ρ1 h with
      | .ok false h1 => lcGo gd tg tt te c ρ ds h1
      | .ok true h1 => match te ρ1 h1 with
        | .ok y h2 => match h2[c]? with
          | some (.lst acc) => if acc.length < 1000000 then lcGo gd tg tt te c ρ ds (h2.set c (.lst (acc ++ [y]))) else .bad
          | _ => .bad
        | _ => .bad
      | _ => .bad
    | none => .bad else .bad
def mLc (it : MI) (tg : MG) (tt : MT) (te : ME) (vs : List Nat) : ME := fun ρ h => (it ρ h).bind fun a h1 => lcGo a.2 tg tt te h1.length (wipeD ρ vs) a.1 (h1 ++ [.lst []])
/-- a target by its very slots -/
structure TgOk (rl : Rl) (g : G) (t : TG) (m : MG) (vs : List Nat) : Prop where
  run : ∀ (v : V) (d : D) (σ : St) (ρ : Slots) (H : Hp) (μ : List Addr) (h : MH) (Q : St → Hp → Prop), HR g H μ h → rl g H μ v d → SR g H μ (L2.wipe σ vs) ρ →
    match m d ρ with
    | some ρ' => (∀ σ', SR g H μ σ' ρ' → L2.wipe σ' vs = L2.wipe σ vs → Q σ' H) → t v (L2.wipe σ vs) H Q
    | none => True
theorem tg_name {g : G} (j : Nat) : TgOk VR g (gName j) (mgName j) [j] := ⟨fun v d σ ρ H μ h Q hr vd sr => by
  intro k
  refine k _ (sr.set j vd) ?_
  show ((σ.set j none).set j (some v)).set j none = σ.set j none
  rw [List.set_set, List.set_set]⟩
theorem tg_pair0 {g : G} {j k : Nat} (hjk : j ≠ k) {v : V} {d : D} {σ : St} {ρ : Slots} {H : Hp} {μ : List Addr} {Q : St → Hp → Prop} {p : Addr} {xs : List V} {ds : List D} (hs : SqT g.K H p xs) (vs : VRs g H μ xs ds) (sr : SR g H μ (L2.wipe σ [j, k]) ρ) :
    match mgTup (mgCons (mgName j) (mgCons (mgName k) mgNil)) (.tup ds) ρ with
    | some ρ' => (∀ σ', SR g H μ σ' ρ' → L2.wipe σ' [j, k] = L2.wipe σ [j, k] → Q σ' H) → gTup g.K 2 (gCons (gName j) (gCons (gName k) gNil)) (.ref p) (L2.wipe σ [j, k]) H Q
    | none => True := by
  cases vs with
  | nil => trivial
  | cons a b =>
    cases b with
    | nil => trivial
    | cons b c =>
      cases c with
      | cons _ _ => trivial
      | nil =>
        rename_i x dx y dy
        show (∀ σ', SR g H μ σ' ((ρ.set j (some dx)).set k (some dy)) → L2.wipe σ' [j, k] = L2.wipe σ [j, k] → Q σ' H) → _
        intro q
        refine ⟨p, _, rfl, hs, rfl, _, _, rfl, _, _, rfl, rfl, ?_⟩
        refine q _ ((sr.set j a).set k b) ?_
        show ((((((σ.set k none).set j none).set j (some x)).set k (some y)).set k none).set j none) = (σ.set k none).set j none
        rw [List.set_set, List.set_set, List.set_comm _ _ (Ne.symm hjk), List.set_set, List.set_comm none none hjk, List.set_set]
theorem tg_pairZ {g : G} {j k : Nat} (hjk : j ≠ k) : TgOk SV g (gTup g.K 2 (gCons (gName j) (gCons (gName k) gNil))) (mgTup (mgCons (mgName j) (mgCons (mgName k) mgNil))) [j, k] := ⟨fun v d σ ρ H μ h Q hr vd sr => by
  obtain ⟨p, xs, ds, rfl, rfl, hs, vs⟩ := vd
  exact tg_pair0 hjk (v := .non) (d := .non) hs vs sr⟩
section
variable {g : G} {W : WX} {mi : MI} {mt : MG} {tt : MT} {te : ME} {t : TG} {vs : List Nat} {rl : Rl}
theorem lc_of (ht : TgOk rl g t mt vs) {σ : St} {H : Hp} {Q : VK} (q : tE g W (mLc mi mt tt te vs) σ H Q) : tLc (tIr rl g W mi) t (tT g W0 tt) (tE g W0 te) vs σ H Q := by
  obtain ⟨ρ, h, μ, sr, hr, bk⟩ := q
  refine step (rel := JRr rl) (rel' := VR) (ma := mi) (Q' := Q) sr hr bk fun J a h1 H1 μ1 m1 sr1 hr1 jr bk1 Dd hD => ?_
  have mD : Mon g H1 (upd H1 Dd (.lst [])) μ1 (μ1 ++ [Dd]) := mon_push hD
  refine ⟨fun i m H' => m = a.1.length - i ∧ i ≤ a.1.length ∧ ∃ h' μ', Mon g H1 H' μ1 μ' ∧ μ'[h1.length]? = some Dd ∧ HR g H' μ' h' ∧ Bk (VR g) g H' μ' (lcGo a.2 mt tt te h1.length (wipeD ρ vs) (a.1.drop i) h') Q (fun c d H' => W c d σ H'),
    ⟨a.1.length, by simp, Nat.zero_le _, h1 ++ [.lst []], μ1 ++ [Dd], mD, ix_push hr1.len, hr1.push (u := .lst []) hD ⟨[], upd_same, .nil⟩, Bk.mono mD (by simpa using bk1)⟩, ?_⟩
  rintro i m H' ⟨rfl, hi, h', μ', m', hc, hr', bk'⟩
  by_cases hlt : i < a.1.length
  · have ed : a.1.drop i = a.1[i] :: a.1.drop (i + 1) := List.drop_eq_getElem_cons hlt
    rw [ed] at bk'
    unfold lcGo at bk'
    split at bk'
    · rename_i gd
      obtain ⟨jg, _⟩ := jr i H' μ' h' m' hr' gd
      obtain ⟨go, yl⟩ := jg hlt
      refine .inr ⟨go, fun H2 => i + 1 ≤ a.1.length ∧ ∃ h2 μ2, Mon g H1 H2 μ1 μ2 ∧ μ2[h1.length]? = some Dd ∧ HR g H2 μ2 h2 ∧ Bk (VR g) g H2 μ2 (lcGo a.2 mt tt te h1.length (wipeD ρ vs) (a.1.drop (i + 1)) h2) Q (fun c d H' => W c d σ H'), fun H2 q => ⟨a.1.length - (i + 1), by omega, rfl, q.1, q.2⟩, fun x Hy y => ?_⟩
      obtain ⟨d, hd, my, hry, vy⟩ := yl x Hy y
      rw [List.getElem?_eq_getElem hlt] at hd
      cases hd
      have mm := m'.trans my
      have srw : SR g Hy μ' (L2.wipe σ vs) (wipeD ρ vs) := (sr1.mono mm).wipe vs
      have tr := ht.run x a.1[i] σ (wipeD ρ vs) Hy μ' h' (fun σ2 H2 => L2.wipe σ2 vs = L2.wipe σ vs ∧ tT g W0 tt σ2 H2 fun b H3 => if b = true then tE g W0 te σ2 H3 fun y H4 => ∃ acc, H4 Dd = some (.lst acc) ∧ acc.length < sizeLine ∧ (i + 1 ≤ a.1.length ∧ ∃ h2 μ2, Mon g H1 (upd H4 Dd (.lst (acc ++ [y]))) μ1 μ2 ∧ μ2[h1.length]? = some Dd ∧ HR g (upd H4 Dd (.lst (acc ++ [y]))) μ2 h2 ∧ Bk (VR g) g (upd H4 Dd (.lst (acc ++ [y]))) μ2 (lcGo a.2 mt tt te h1.length (wipeD ρ vs) (a.1.drop (i + 1)) h2) Q (fun c d H' => W c d σ H')) else (i + 1 ≤ a.1.length ∧ ∃ h2 μ2, Mon g H1 H3 μ1 μ2 ∧ μ2[h1.length]? = some Dd ∧ HR g H3 μ2 h2 ∧ Bk (VR g) g H3 μ2 (lcGo a.2 mt tt te h1.length (wipeD ρ vs) (a.1.drop (i + 1)) h2) Q (fun c d H' => W c d σ H'))) hry vy srw
      split at bk'
      · rename_i ρ1 e1
        rw [e1] at tr
        refine tr fun σ2 sr2 ew => ⟨ew, ρ1, h', μ', sr2, hry, ?_⟩
        cases e2 : tt ρ1 h' with
        | bad => rw [e2] at bk'; exact bk'.elim
        | exc x fs h3 => rw [e2] at bk'; exact bk'.elim
        | ok b h3 =>
          rw [e2] at bk'
          intro b' H3 μ3 m3 hr3 eb
          cases eb
          cases b with
          | false => exact ⟨hlt, h3, μ3, mm.trans m3, m3.ix hc, hr3, Bk.mono (my.trans m3) bk'⟩
          | true =>
            refine ⟨ρ1, h3, μ3, sr2.mono m3, hr3, ?_⟩
            simp only at bk'
            cases e3 : te ρ1 h3 with
            | bad => rw [e3] at bk'; exact bk'.elim
            | exc x fs h4 => rw [e3] at bk'; exact bk'.elim
            | ok y h4 =>
              rw [e3] at bk'
              intro yv H4 μ4 m4 hr4 vyv
              simp only at bk'
              split at bk'
              · rename_i acc ea
                split at bk'
                · rename_i hl
                  have hc4 : μ4[h1.length]? = some Dd := m4.ix (m3.ix hc)
                  obtain ⟨xs, hx, vx⟩ := hr4.lst hc4 ea
                  have m5 : Mon g H4 (upd H4 Dd (.lst (xs ++ [yv]))) μ4 μ4 := (Saf.lst hx).mon
                  exact ⟨xs, hx, by rw [vx.length]; exact sz6' hl, hlt, _, μ4, ((mm.trans m3).trans m4).trans m5, hc4,
                    hr4.write (u := .lst (acc ++ [y])) hc4 ea rfl (Saf.lst hx) rfl ⟨_, upd_same, (vx.append (.one vyv)).mono m5⟩, Bk.mono (((my.trans m3).trans m4).trans m5) bk'⟩
                · exact bk'.elim
              · exact bk'.elim
      · exact bk'.elim
    · exact bk'.elim
  · have e : i = a.1.length := by omega
    subst e
    rw [List.drop_length] at bk'
    unfold lcGo at bk'
    split at bk'
    · rename_i gd
      exact .inl ⟨(jr _ H' μ' h' m' hr' gd).2 (Nat.le_refl _), bk' _ H' μ' Mon.refl hr' (.ref hc)⟩
    · exact bk'.elim
end
section
variable {X : Cx} {g : G} {W : WX} {elt tg iter : Expr} {ifs : List Expr} {scope : Scope} {own : List (Str × Nat)} {pos spos py : Pos} {mi : MI} {mt : MG} {tt : MT} {te : ME} {t : TG} {rl : Rl}
theorem st_one {Y : Cx} {c : Expr} (h : PT Y c (tT g W0 tt)) : PTs Y [c] (tT g W0 tt) := pts_one h
theorem st_nil {Y : Cx} : PTs Y [] (tT g W0 mYes) := ⟨fun pins s σ H Q I ⟨ρ, h, μ, sr, hr, bk⟩ => (pts_nil (X := Y)).run pins s σ H Q I (bk true H μ Mon.refl hr rfl)⟩
theorem se_lc (hN : X.N.Nodup) (hi : PI X tg iter (tIr rl g W mi)) (ok : BlkOk X.N X.env.scope scope own) (ht : TgOk rl g t mt (own.map (·.2)))
    (hg : ∀ (s : Shared) (H : Hp) (C : Addr) (cl : List (Str × Addr)) (fp : List Addr), PG (X.blk s H scope (PySem.compEnvC scope cl C X.env) fp) tg t) (hts : ∀ (s : Shared) (H : Hp) (C : Addr) (cl : List (Str × Addr)) (fp : List Addr), PTs (X.blk s H scope (PySem.compEnvC scope cl C X.env) fp) ifs (tT g W0 tt))
    (he : ∀ (s : Shared) (H : Hp) (C : Addr) (cl : List (Str × Addr)) (fp : List Addr), PE (X.blk s H scope (PySem.compEnvC scope cl C X.env) fp) elt (tE g W0 te)) (hc : X.calm = true := by rfl) (hs : ∀ x, foldedSetIterable iter X.env x = pure x := by intro _; rfl) :
    PE X (.ListComp elt [⟨tg, iter, ifs, 0⟩] scope pos) (tE g W (mLc mi mt tt te (own.map (·.2)))) :=
  pe_mono (pe_lc hc hN hi ok hg hts he hs) fun σ H Q q => lc_of ht q
theorem sx_setLc {i : Nat} {y : Str} (hN : X.N.Nodup) (hi : PI X tg iter (tIr rl g W mi)) (ok : BlkOk X.N X.env.scope scope own) (ht : TgOk rl g t mt (own.map (·.2)))
    (hg : ∀ (s : Shared) (H : Hp) (C : Addr) (cl : List (Str × Addr)) (fp : List Addr), PG (X.blk s H scope (PySem.compEnvC scope cl C X.env) fp) tg t) (hts : ∀ (s : Shared) (H : Hp) (C : Addr) (cl : List (Str × Addr)) (fp : List Addr), PTs (X.blk s H scope (PySem.compEnvC scope cl C X.env) fp) ifs (tT g W0 tt))
    (he : ∀ (s : Shared) (H : Hp) (C : Addr) (cl : List (Str × Addr)) (fp : List Addr), PE (X.blk s H scope (PySem.compEnvC scope cl C X.env) fp) elt (tE g W0 te))
    (hy : X.N[i]? = some y := by rfl) (hyl : X.env.scope.names.lookup y = some .local := by rfl) (hsw : swapsWith (.ListComp elt [⟨tg, iter, ifs, 0⟩] scope pos) (some (.Name y py)) spos.line X.env = pure true := by exact sw_true rfl rfl rfl (by decide +kernel))
    (hc : X.calm = true := by rfl) (hs : ∀ x, foldedSetIterable iter X.env x = pure x := by intro _; rfl) :
    PS X (.Assign [.Name y py] (.ListComp elt [⟨tg, iter, ifs, 0⟩] scope pos) spos) (tS g W (mAsg i (mLc mi mt tt te (own.map (·.2))))) :=
  ps_mono (ps_setLc hc hN hy hyl hsw hi ok hg hts he hs) fun E σ H ⟨ρ, h, μ, sr, hr, bk⟩ => lc_of ht (W := W) (stepS (W := W) (rel := VR) (ma := mLc mi mt tt te (own.map (fun p : Str × Nat => p.2))) (f := fun d h1 => .nx (ρ.set i (some d)) h1) (E := E) sr hr bk fun v d h1 H1 μ1 m1 sr1 hr1 vx bk1 => bk1 _ H1 μ1 Mon.refl (sr1.set i vx) hr1)
end

/-! ### stores to places, to several names -/
def dSet (x y d : D) (h : MH) : R Unit := match x, y with
  | .ref i, .int k => match h[i]? with
    | some (.lst l) => match ixN l.length k with
      | some j => .ok () (h.set i (.lst (l.set j d)))
      | none => .bad
    | _ => .bad
  | _, _ => .bad
def mSetIx (o i e : ME) : MS := fun ρ h => (e ρ h).out ρ fun d h1 => (o ρ h1).out ρ fun x h2 => (i ρ h2).out ρ fun y h3 => (dSet x y d h3).out ρ fun _ h4 => .nx ρ h4
def mAsgT (m : MG) (e : ME) : MS := fun ρ h => (e ρ h).out ρ fun d h1 => match m d ρ with
  | some ρ' => .nx ρ' h1
  | none => .bad
section
variable {X : Cx} {g : G} {W : WX} {o i e tg : Expr} {mo mi me : ME} {pos p2 : Pos} {mt : MG}
theorem sx_setIx (ho : PE X o (tE g W mo)) (hi : PE X i (tE g W mi)) (he : PE X e (tE g W me))
    (ha : ∀ v, assign (.Subscript o i p2) X.env v = (do
      let ov ← holding [v] (eval o X.env)
      let iv ← holding [v, ov] (eval i X.env)
      standAt p2
      holding [v, ov, iv] (setItem ov iv v)
      release [v, ov, iv] []) := by intro _; rfl)
    (hs : swapsWithSole [.Subscript o i p2] e pos.line X.env = pure false := by rfl) (hw : swappedStores [.Subscript o i p2] e X.env = pure none := by rfl)
    (h1 : (assignEach [.Subscript o i p2] X.env).map (·.2) = [assign (.Subscript o i p2) X.env] := by rfl) : PS X (.Assign [.Subscript o i p2] e pos) (tS g W (mSetIx mo mi me)) :=
  ps_mono (ps_asg he (pg_sub ho hi set_list ha) hs hw h1) fun E σ H ⟨ρ, h, μ, sr, hr, bk⟩ =>
    stepS (rel := VR) (ma := me) (E := E) sr hr bk fun v d h1 H1 μ1 m1 sr1 hr1 vd bk1 => stepS (rel := VR) (ma := mo) (E := E) sr1 hr1 bk1 fun x a h2 H2 μ2 m2 sr2 hr2 vx bk2 => stepS (rel := VR) (ma := mi) (E := E) sr2 hr2 bk2 fun y b h3 H3 μ3 m3 sr3 hr3 vy bk3 => by
      have vx := vx.mono m3
      have vd := (vd.mono m2).mono m3
      cases vx with
      | @ref p c hi =>
        cases vy with
        | int k =>
          simp only [dSet] at bk3
          split at bk3
          · rename_i l q
            split at bk3
            · rename_i j ej
              obtain ⟨xs, hx, vxs⟩ := hr3.lst hi q
              refine ⟨p, xs, k, j, rfl, rfl, hx, by rw [vxs.length]; exact ej, ?_⟩
              have m5 : Mon g H3 (upd H3 p (.lst (xs.set j v))) μ3 μ3 := (Saf.lst hx).mon
              exact bk3 _ _ μ3 m5 (sr3.mono m5) (hr3.write (u := .lst (l.set j d)) hi q rfl (Saf.lst hx) rfl ⟨_, upd_same, (vxs.set j vd).mono m5⟩)
            · exact bk3.elim
          · exact bk3.elim
        | _ => exact bk3.elim
      | _ => exact bk3.elim
end

/-! ### the end of a law -/
def cmOf (K : PySem.W.Frag) : Str → Option Addr := fun x => match PySem.W.nsIn K mainGlobals x with
  | some (some (.ref C)) => some C
  | _ => none
abbrev gOf (w : World) (K : PySem.W.Frag) : G := ⟨K, cmOf K, w⟩
theorem vrs_ints {g : G} {H : Hp} {μ : List Addr} : ∀ ns : List Int, VRs g H μ (ns.map V.int) (ns.map D.int)
  | [] => .nil
  | n :: ns => .cons (.int n) (vrs_ints ns)
theorem law_start {K : PySem.W.Frag} {F : List D → MH → R D} {H : Hp} {a : Addr} {ns : List Int} {h' : MH} (hO : Only H) (hS : SqL K H a (ns.map V.int)) (hF : F [.ref 0] [.rol (ns.map D.int)] = .ok (.bl true) h') :
    spM (gOf w K) F [.ref a] H (fun v _ => v = .bl true) fun _ _ _ => False := by
  refine ⟨[.ref 0], [.rol (ns.map D.int)], [a], .cons (.ref rfl) .nil, ⟨rfl, fun i p o hi ho => ?_, fun i j p o u hi hj ho hu m1 m2 => ?_⟩, ?_⟩
  · cases i with
    | succ i => simp at hi
    | zero =>
      simp at hi ho
      subst hi ho
      refine ⟨ns.map V.int, ?_, vrs_ints ns⟩
      rcases hS with (h | h) | h
      · rcases hO a with z | ⟨o, xs, z⟩
        · rw [h] at z; cases z
        · rw [h] at z; cases z
      · exact .inl h
      · exact .inr h
  · cases i with
    | succ i => simp at hi
    | zero => cases j with
      | succ j => simp at hj
      | zero => rfl
  · rw [hF]
    intro v H' μ' m hr hv
    cases hv
    rfl
theorem law_end {l : PySem.W.OpenLaw} {k : Nat} {q : Program} {loose : List Str} {XP : (Str → Option Value) → Heap → Prop} {YP : World → Heap → Prop} {d : DefRec} {K : Params → PySem.W.Frag} {x : Str} {F : List D → MH → R D}
    (hF : ∀ ns : List Int, ns.length ≤ 63 → (∀ z ∈ ns, Builtin.Int.intBits z ≤ 1048576) → ∃ h', F [.ref 0] [.rol (ns.map D.int)] = .ok (.bl true) h')
    (hn : l.most = some 63) (hdf : d.params.defaults = []) (hr : Room k PySem.callerA)
    (hY : ∀ (w : World) (h : Heap), YP w h → (K w.params).In h)
    (FF : ∀ (w : World) (mg : Str → Option Value) (fa : Addr) (h : Heap), (K w.params).In h → h.Ns mainGlobals mg → mg d.name = some (.ref fa) →
      ∃ fd : FuncData, (∀ (s : Shared) (u : Value), BindsTo s fd ⟨[u], []⟩ [(x, u)]) ∧
        ∀ base : Heap, (K w.params).In base → base.Ns mainGlobals mg → FnOk l.prog w (K w.params) mg base (L2.CX l.prog w) k fa fd [x] (spM (gOf w (K w.params)) F)) :
    PySem.W.WalkO q loose XP YP l.row.toRowW d [] (fun f vs => PySem.call f vs) :=
  walk_ofB (n := 63) (k := k) (x := x) (CX := fun w => L2.CX l.prog w) (sp := fun w => spM (gOf w (K w.params)) F) hn (by decide) hdf hr hY FF
    (fun w H a ns h1 h2 hO hS => let ⟨h', e⟩ := hF ns h1 h2; law_start hO hS e)
    fun w H s e s' c => by
      obtain ⟨_, _, _, _, _, _, _, _, _, _, _, _, z⟩ := c
      exact z
end Mi
namespace Mi
open PySem L2

/-! ### dict displays of no pair, of one -/
def keyD : D → Option Key
  | .int i => some (.inl i)
  | .str x => some (.inr x)
  | _ => none
def mDict0 : ME := fun _ h => .ok (.ref h.length) (h ++ [.dK []])
def mDict1 (k v : ME) : ME := fun ρ h => (k ρ (h ++ [.dK []])).bind fun x h1 => (v ρ h1).bind fun y h2 => if h2[h.length]? = some (.dK []) then match keyD x with
  | some kk => .ok (.ref h.length) (h2.set h.length (.dK [(kk, y)]))
  | none => .bad else .bad
section
variable {X : Cx} {g : G} {W : WX} {k v : Expr} {mk mv : ME} {pos : Pos}
end
/-! ### a < b < c -/
def mChain (f f' : D → D → MH → R D) (a b c : ME) : ME := fun ρ h => (a ρ h).bind fun x h1 => (b ρ h1).bind fun y h2 => (f x y h2).bind fun z h3 => match z with
  | .bl true => (c ρ h3).bind fun w h4 => f' y w h4
  | .bl false => .ok (.bl false) h3
  | _ => .bad
section
variable {X : Cx} {g : G} {W : WX} {a b c : Expr} {ma mb mc : ME} {pos : Pos} {r r' : R2} {f f' : D → D → MH → R D} {op op' : CmpOp}
end

/-! ### defs by their names -/
/-- a def of the top, as it stands: its text, its parameters -/
def Df (K : PySem.W.Frag) (mg : Str → Option Value) (x : Str) (st : Stmt) (ps : List Str) : Prop := ∃ f fd, Fun K x x st f fd ∧ mg x = some (.ref f) ∧ Binds K fd ps []
/-- a def that does what F says, by at most k calls deep -/
def Cal (P : Program) (w : World) (K : PySem.W.Frag) (mg : Str → Option Value) (base : Heap) (x : Str) (k : Nat) (F : List D → MH → R D) : Prop :=
  ∃ f fd ps, FnOk P w K mg base (L2.CX P w) k f fd ps (spM (gOf w K) F) ∧ mg x = some (.ref f) ∧ PySem.W.keepIn K (.ref f) = true ∧ Binds K fd ps []
section
variable {P : Program} {w : World} {K : PySem.W.Frag} {mg : Str → Option Value} {base : Heap}
theorem df_mk {h : Heap} {x : Str} {st : Stmt} {ps : List Str} {f : Addr} {oc : Value} {od an : Option Addr} {osl : Array (Option Value)} {kV doc pm cdv ct : Value} (X : K.In h) (G : h.Ns mainGlobals mg)
    (a : PySem.W.nsIn K mainGlobals x = some (some (.ref f))) (l : K.lookup f = some ⟨oc, od, .func (PySem.W.fnOf x x (defArgs st) (defBody st) (defScope st) .none kV doc pm an cdv ct), osl⟩)
    (c : PySem.W.codeIn K cdv x = true) (k : PySem.W.keepIn K (.ref f) = true)
    (hb : ∀ (kV doc pm : Value) (an : Option Addr) (cdv ct : Value) (us : List Value), us.length = ps.length → bindArgs (PySem.W.fnOf x x (defArgs st) (defBody st) (defScope st) .none kV doc pm an cdv ct) ⟨us, []⟩ = pure (ps.zip us)) : Df K mg x st ps := by
  have F := fun_mk (st := st) l c k
  exact ⟨f, _, F, PySem.W.mg_of X G a, F.binds hb⟩
theorem Cal.mono {x : Str} {j k : Nat} {F : List D → MH → R D} (c : Cal P w K mg base x j F) (h : j ≤ k) : Cal P w K mg base x k F := by
  obtain ⟨f, fd, ps, F1, m, kp, b⟩ := c
  exact ⟨f, fd, ps, F1.mono h, m, kp, b⟩
theorem cal_mk {x : Str} {st : Stmt} {N ps : List Str} {k : Nat} {body : MS} (d : Df K mg x st ps) (S : FnScope N ps (defScope st))
    (hb : ∀ (f : Addr) (cdv : Value) (A : Around) (outer : List Env) (s : Shared) (H : Hp) (E : XK), Room k (A.deeper (PyProof.Rows.envOfC x (defScope st) s.heap.objs.size f cdv)) →
      PSs (cxOf (L2.CX P w) P w K mg base N x (defScope st) f cdv A outer s H E) (defBody st) (tS (gOf w K) (fun c d _ H' => E c d H') body)) : Cal P w K mg base x (k + 1) (mFun ps.length N.length body) := by
  obtain ⟨f, fd, F, m, b⟩ := d
  exact ⟨f, fd, ps, fn_mk F S (hb f), m, F.kp, b⟩
theorem cal_none {x : Str} {st : Stmt} {ps : List Str} {k : Nat} {F : List D → MH → R D} (d : Df K mg x st ps) (hF : ∀ ds h, F ds h = .bad) : Cal P w K mg base x k F := by
  obtain ⟨f, fd, F, m, b⟩ := d
  exact ⟨f, fd, ps, fn_none hF, m, F.kp, b⟩
end
section
variable {X : Cx} {W : WX} {e : Expr} {es : List Expr} {mr : MA} {p pos : Pos}
theorem se_callC {x : Str} {k : Nat} {F : List D → MH → R D} (c : Cal X.prog X.w X.K X.mg X.base x k F) (hr : Room k X.A) (tk : Takes X W) (ha : PA X (e :: es) (tA (gOf X.w X.K) W mr)) (hg : Gl X x := by rfl) (hdb : (x == ("__debug__" : Str)) = false := by decide)
    (he : starEach (e :: es) X.env = (false, eval e X.env) :: starEach es X.env := by rfl) (hpl : (backTo pos (starEach es X.env)).any (·.1) = false := by rfl) : PE X (.Call (.Name x p) (e :: es) [] pos) (tE (gOf X.w X.K) W (mCall F mr)) := by
  obtain ⟨f, fd, ps, F1, m, kp, b⟩ := c
  exact se_call F1 hr tk m kp b ha hg hdb he hpl
end
end Mi

/-! How the mirror's parts are reckoned, step by step: each rule speaks of a part that stands applied to its slots and heap, and leaves what follows unapplied. -/
namespace Mi
open PySem L2

/-- not by rfl, so that simp writes each step out (the kernel then needs no unfolding of the rest) -/
theorem nr {α : Sort _} {a b : α} (h : a = b) : a = b := h
@[simp] theorem mVar_zero (d : D) (r : Slots) (h : MH) : mVar 0 (some d :: r) h = .ok d h := nr rfl
@[simp] theorem mVar_succ (n : Nat) (o : Option D) (r : Slots) (h : MH) : mVar (n + 1) (o :: r) h = mVar n r h := nr rfl
@[simp] theorem mC_ev (d : D) (ρ : Slots) (h : MH) : mC d ρ h = .ok d h := nr rfl
def bin2 (f : D → D → MH → R D) (b : ME) (ρ : Slots) (r : R D) : R D := r.bind fun x h1 => (b ρ h1).bind fun y h2 => f x y h2
def bin1 (f : D → D → MH → R D) (x : D) (r : R D) : R D := r.bind fun y h2 => f x y h2
@[simp] theorem mBin_ev (f : D → D → MH → R D) (a b : ME) (ρ : Slots) (h : MH) : mBin f a b ρ h = bin2 f b ρ (a ρ h) := nr rfl
@[simp] theorem bin2_ok (f : D → D → MH → R D) (b : ME) (ρ : Slots) (x : D) (h : MH) : bin2 f b ρ (.ok x h) = bin1 f x (b ρ h) := nr rfl
@[simp] theorem bin1_ok (f : D → D → MH → R D) (x y : D) (h : MH) : bin1 f x (.ok y h) = f x y h := nr rfl
def un1 (f : D → MH → R D) : R D → R D
  | .ok y h2 => f y h2
  | .exc x fs h => .exc x fs h
  | .bad => .bad
@[simp] theorem mUn_ev (f : D → MH → R D) (a : ME) (ρ : Slots) (h : MH) : mUn f a ρ h = un1 f (a ρ h) := by
  unfold mUn un1
  cases a ρ h <;> rfl
@[simp] theorem un1_ok (f : D → MH → R D) (x : D) (h : MH) : un1 f (.ok x h) = f x h := nr rfl
@[simp] theorem mNil_ev (ρ : Slots) (h : MH) : mNil ρ h = .ok [] h := nr rfl
def cons1 (t : MA) (ρ : Slots) (r : R D) : R (List D) := r.bind fun x h1 => (t ρ h1).bind fun xs h2 => .ok (x :: xs) h2
def cons2 (x : D) (r : R (List D)) : R (List D) := r.bind fun xs h2 => .ok (x :: xs) h2
@[simp] theorem mCons_ev (a : ME) (r : MA) (ρ : Slots) (h : MH) : mCons a r ρ h = cons1 r ρ (a ρ h) := nr rfl
@[simp] theorem cons1_ok (r : MA) (ρ : Slots) (x : D) (h : MH) : cons1 r ρ (.ok x h) = cons2 x (r ρ h) := nr rfl
@[simp] theorem cons2_ok (x : D) (xs : List D) (h : MH) : cons2 x (.ok xs h) = .ok (x :: xs) h := nr rfl
def call1 (F : List D → MH → R D) : R (List D) → R D
  | .ok xs h1 => F xs h1
  | .exc x fs h => .exc x fs h
  | .bad => .bad
@[simp] theorem mCall_ev (F : List D → MH → R D) (a : MA) (ρ : Slots) (h : MH) : mCall F a ρ h = call1 F (a ρ h) := by
  unfold mCall call1
  cases a ρ h <;> rfl
@[simp] theorem call1_ok (F : List D → MH → R D) (xs : List D) (h : MH) : call1 F (.ok xs h) = F xs h := nr rfl
def tup1 : R (List D) → R D
  | .ok xs h1 => if xs.length ≤ 1000000 then .ok (.tup xs) h1 else .bad
  | .exc x fs h => .exc x fs h
  | .bad => .bad
@[simp] theorem mTup_ev (a : MA) (ρ : Slots) (h : MH) : mTup a ρ h = tup1 (a ρ h) := by
  unfold mTup tup1
  cases a ρ h <;> rfl
@[simp] theorem tup1_ok (xs : List D) (h : MH) : tup1 (.ok xs h) = if xs.length ≤ 1000000 then .ok (.tup xs) h else .bad := nr rfl
def lst1 : R (List D) → R D
  | .ok xs h1 => if xs.length ≤ 1000000 then .ok (.ref h1.length) (h1 ++ [.lst xs]) else .bad
  | .exc x fs h => .exc x fs h
  | .bad => .bad
@[simp] theorem mLst_ev (a : MA) (ρ : Slots) (h : MH) : mLst a ρ h = lst1 (a ρ h) := by
  unfold mLst lst1
  cases a ρ h <;> rfl
@[simp] theorem lst1_ok (xs : List D) (h : MH) : lst1 (.ok xs h) = if xs.length ≤ 1000000 then .ok (.ref h.length) (h ++ [.lst xs]) else .bad := nr rfl
/-! tests -/
def b1 : R D → R Bool
  | .ok (.bl b) h => .ok b h
  | .ok _ _ => .bad
  | .exc x fs h => .exc x fs h
  | .bad => .bad
@[simp] theorem mB_ev (a : ME) (ρ : Slots) (h : MH) : mB a ρ h = b1 (a ρ h) := by
  unfold mB b1
  cases a ρ h with
  | ok x h1 => cases x <;> rfl
  | _ => rfl
@[simp] theorem b1_ok (b : Bool) (h : MH) : b1 (.ok (.bl b) h) = .ok b h := nr rfl
def and1 (b : MT) (ρ : Slots) : R Bool → R Bool
  | .ok true h => b ρ h
  | .ok false h => .ok false h
  | .exc x fs h => .exc x fs h
  | .bad => .bad
def or1 (b : MT) (ρ : Slots) : R Bool → R Bool
  | .ok true h => .ok true h
  | .ok false h => b ρ h
  | .exc x fs h => .exc x fs h
  | .bad => .bad
def not1 : R Bool → R Bool
  | .ok b h => .ok (!b) h
  | .exc x fs h => .exc x fs h
  | .bad => .bad
@[simp] theorem mAnd_ev (a b : MT) (ρ : Slots) (h : MH) : mAnd a b ρ h = and1 b ρ (a ρ h) := by
  unfold mAnd and1
  cases a ρ h with
  | ok x h1 => cases x <;> rfl
  | _ => rfl
@[simp] theorem mOr_ev (a b : MT) (ρ : Slots) (h : MH) : mOr a b ρ h = or1 b ρ (a ρ h) := by
  unfold mOr or1
  cases a ρ h with
  | ok x h1 => cases x <;> rfl
  | _ => rfl
@[simp] theorem mNot_ev (a : MT) (ρ : Slots) (h : MH) : mNot a ρ h = not1 (a ρ h) := by
  unfold mNot not1
  cases a ρ h <;> rfl
@[simp] theorem and1_t (b : MT) (ρ : Slots) (h : MH) : and1 b ρ (.ok true h) = b ρ h := nr rfl
@[simp] theorem and1_f (b : MT) (ρ : Slots) (h : MH) : and1 b ρ (.ok false h) = .ok false h := nr rfl
@[simp] theorem or1_t (b : MT) (ρ : Slots) (h : MH) : or1 b ρ (.ok true h) = .ok true h := nr rfl
@[simp] theorem or1_f (b : MT) (ρ : Slots) (h : MH) : or1 b ρ (.ok false h) = b ρ h := nr rfl
@[simp] theorem not1_ok (b : Bool) (h : MH) : not1 (.ok b h) = .ok (!b) h := nr rfl
def andV1 (b : ME) (ρ : Slots) : R D → R D
  | .ok (.bl true) h => b ρ h
  | .ok (.bl false) h => .ok (.bl false) h
  | .ok _ _ => .bad
  | .exc x fs h => .exc x fs h
  | .bad => .bad
def orV1 (b : ME) (ρ : Slots) : R D → R D
  | .ok (.bl true) h => .ok (.bl true) h
  | .ok (.bl false) h => b ρ h
  | .ok _ _ => .bad
  | .exc x fs h => .exc x fs h
  | .bad => .bad
def notV1 : R D → R D
  | .ok (.bl b) h => .ok (.bl (!b)) h
  | .ok _ _ => .bad
  | .exc x fs h => .exc x fs h
  | .bad => .bad
@[simp] theorem mAndV_ev (a b : ME) (ρ : Slots) (h : MH) : mAndV a b ρ h = andV1 b ρ (a ρ h) := by
  unfold mAndV andV1
  cases a ρ h with
  | ok x h1 => cases x with
    | bl b => cases b <;> rfl
    | _ => rfl
  | _ => rfl
@[simp] theorem mOrV_ev (a b : ME) (ρ : Slots) (h : MH) : mOrV a b ρ h = orV1 b ρ (a ρ h) := by
  unfold mOrV orV1
  cases a ρ h with
  | ok x h1 => cases x with
    | bl b => cases b <;> rfl
    | _ => rfl
  | _ => rfl
@[simp] theorem mNotV_ev (a : ME) (ρ : Slots) (h : MH) : mNotV a ρ h = notV1 (a ρ h) := by
  unfold mNotV notV1
  cases a ρ h with
  | ok x h1 => cases x <;> rfl
  | _ => rfl
@[simp] theorem andV1_t (b : ME) (ρ : Slots) (h : MH) : andV1 b ρ (.ok (.bl true) h) = b ρ h := nr rfl
@[simp] theorem andV1_f (b : ME) (ρ : Slots) (h : MH) : andV1 b ρ (.ok (.bl false) h) = .ok (.bl false) h := nr rfl
@[simp] theorem orV1_t (b : ME) (ρ : Slots) (h : MH) : orV1 b ρ (.ok (.bl true) h) = .ok (.bl true) h := nr rfl
@[simp] theorem orV1_f (b : ME) (ρ : Slots) (h : MH) : orV1 b ρ (.ok (.bl false) h) = b ρ h := nr rfl
@[simp] theorem notV1_ok (b : Bool) (h : MH) : notV1 (.ok (.bl b) h) = .ok (.bl (!b)) h := nr rfl
def ifE1 (a b : ME) (ρ : Slots) : R Bool → R D
  | .ok true h => a ρ h
  | .ok false h => b ρ h
  | .exc x fs h => .exc x fs h
  | .bad => .bad
@[simp] theorem mIfE_ev (c : MT) (a b : ME) (ρ : Slots) (h : MH) : mIfE c a b ρ h = ifE1 a b ρ (c ρ h) := by
  unfold mIfE ifE1
  cases c ρ h with
  | ok x h1 => cases x <;> rfl
  | _ => rfl
@[simp] theorem ifE1_t (a b : ME) (ρ : Slots) (h : MH) : ifE1 a b ρ (.ok true h) = a ρ h := nr rfl
@[simp] theorem ifE1_f (a b : ME) (ρ : Slots) (h : MH) : ifE1 a b ρ (.ok false h) = b ρ h := nr rfl
/-! isinstance, slices, methods -/
def isi1 (T : String) : R D → R D
  | .ok x h => match (tyName h x).bind fun n => kitB n T with
    | some b => .ok (.bl b) h
    | none => .bad
  | .exc x fs h => .exc x fs h
  | .bad => .bad
@[simp] theorem mIsi_ev (T : String) (a : ME) (ρ : Slots) (h : MH) : mIsi T a ρ h = isi1 T (a ρ h) := by
  unfold mIsi isi1
  cases a ρ h <;> rfl
theorem isi1_ok (T : String) (x : D) (h : MH) {n : String} {b : Bool} (hn : tyName h x = some n) (hb : kitB n T = some b) : isi1 T (.ok x h) = .ok (.bl b) h := by
  unfold isi1
  simp only [hn, Option.bind_some, hb]
@[simp] theorem isi_str_str (x : Str) (h : MH) : isi1 "str" (.ok (.str x) h) = .ok (.bl true) h := isi1_ok _ _ _ rfl (by decide +kernel)
@[simp] theorem isi_str_int (x : Int) (h : MH) : isi1 "str" (.ok (.int x) h) = .ok (.bl false) h := isi1_ok _ _ _ rfl (by decide +kernel)
@[simp] theorem isi_str_non (h : MH) : isi1 "str" (.ok .non h) = .ok (.bl false) h := isi1_ok _ _ _ rfl (by decide +kernel)
@[simp] theorem isi_str_bl (b : Bool) (h : MH) : isi1 "str" (.ok (.bl b) h) = .ok (.bl false) h := isi1_ok _ _ _ rfl (by decide +kernel)
@[simp] theorem isi_str_tup (l : List D) (h : MH) : isi1 "str" (.ok (.tup l) h) = .ok (.bl false) h := isi1_ok _ _ _ rfl (by decide +kernel)
@[simp] theorem isi_bool_bl (b : Bool) (h : MH) : isi1 "bool" (.ok (.bl b) h) = .ok (.bl true) h := isi1_ok _ _ _ rfl (by decide +kernel)
@[simp] theorem isi_bool_int (b : Int) (h : MH) : isi1 "bool" (.ok (.int b) h) = .ok (.bl false) h := isi1_ok _ _ _ rfl (by decide +kernel)
@[simp] theorem isi_int_int (b : Int) (h : MH) : isi1 "int" (.ok (.int b) h) = .ok (.bl true) h := isi1_ok _ _ _ rfl (by decide +kernel)
@[simp] theorem isi_tup_tup (l : List D) (h : MH) : isi1 "tuple" (.ok (.tup l) h) = .ok (.bl true) h := isi1_ok _ _ _ rfl (by decide +kernel)
@[simp] theorem isi_tup_str (x : Str) (h : MH) : isi1 "tuple" (.ok (.str x) h) = .ok (.bl false) h := isi1_ok _ _ _ rfl (by decide +kernel)
@[simp] theorem isi_tup_int (x : Int) (h : MH) : isi1 "tuple" (.ok (.int x) h) = .ok (.bl false) h := isi1_ok _ _ _ rfl (by decide +kernel)
@[simp] theorem isi_tup_non (h : MH) : isi1 "tuple" (.ok .non h) = .ok (.bl false) h := isi1_ok _ _ _ rfl (by decide +kernel)
@[simp] theorem mNo_ev (ρ : Slots) (h : MH) : mNo ρ h = .ok none h := nr rfl
def some1 : R D → R (Option Int)
  | .ok (.int i) h => .ok (some i) h
  | .ok _ _ => .bad
  | .exc x fs h => .exc x fs h
  | .bad => .bad
@[simp] theorem mSome_ev (a : ME) (ρ : Slots) (h : MH) : mSome a ρ h = some1 (a ρ h) := by
  unfold mSome some1
  cases a ρ h with
  | ok x h1 => cases x <;> rfl
  | _ => rfl
@[simp] theorem some1_ok (i : Int) (h : MH) : some1 (.ok (.int i) h) = .ok (some i) h := nr rfl
def sl1 (lo hi : MP) (ρ : Slots) (r : R D) : R D := r.bind fun x h1 => (lo ρ h1).bind fun l h2 => (hi ρ h2).bind fun u h3 => dSl x l u h3
def sl2 (x : D) (hi : MP) (ρ : Slots) (r : R (Option Int)) : R D := r.bind fun l h2 => (hi ρ h2).bind fun u h3 => dSl x l u h3
def sl3 (x : D) (l : Option Int) (r : R (Option Int)) : R D := r.bind fun u h3 => dSl x l u h3
@[simp] theorem mSl_ev (a : ME) (lo hi : MP) (ρ : Slots) (h : MH) : mSl a lo hi ρ h = sl1 lo hi ρ (a ρ h) := nr rfl
@[simp] theorem sl1_ok (lo hi : MP) (ρ : Slots) (x : D) (h : MH) : sl1 lo hi ρ (.ok x h) = sl2 x hi ρ (lo ρ h) := nr rfl
@[simp] theorem sl2_ok (x : D) (hi : MP) (ρ : Slots) (l : Option Int) (h : MH) : sl2 x hi ρ (.ok l h) = sl3 x l (hi ρ h) := nr rfl
@[simp] theorem sl3_ok (x : D) (l u : Option Int) (h : MH) : sl3 x l (.ok u h) = dSl x l u h := nr rfl
def meth1 (T : D → MH → Bool) (f : D → List D → MH → R D) (t : MA) (ρ : Slots) (r : R D) : R D := r.bind fun x h1 => if T x h1 = true then (t ρ h1).bind fun xs h2 => f x xs h2 else .bad
def meth2 (f : D → List D → MH → R D) (x : D) (r : R (List D)) : R D := r.bind fun xs h2 => f x xs h2
@[simp] theorem mMeth_ev (T : D → MH → Bool) (f : D → List D → MH → R D) (a : ME) (r : MA) (ρ : Slots) (h : MH) : mMeth T f a r ρ h = meth1 T f r ρ (a ρ h) := nr rfl
@[simp] theorem meth1_ok (T : D → MH → Bool) (f : D → List D → MH → R D) (r : MA) (ρ : Slots) (x : D) (h : MH) : meth1 T f r ρ (.ok x h) = if T x h = true then meth2 f x (r ρ h) else .bad := nr rfl
@[simp] theorem meth2_ok (f : D → List D → MH → R D) (x : D) (xs : List D) (h : MH) : meth2 f x (.ok xs h) = f x xs h := nr rfl
@[simp] theorem isListD_ref (i : Nat) (h : MH) : isListD (.ref i) h = (getL h i).isSome := nr rfl
@[simp] theorem isStrD_str (x : Str) (h : MH) : isStrD (.str x) h = true := nr rfl
/-! statements -/
def Out.then (b : MS) : Out → Out
  | .nx ρ h => b ρ h
  | o => o
@[simp] theorem mSeq_ev (a b : MS) (ρ : Slots) (h : MH) : mSeq a b ρ h = (a ρ h).then b := by
  unfold mSeq Out.then
  cases a ρ h <;> rfl
@[simp] theorem then_nx (b : MS) (ρ : Slots) (h : MH) : Out.then b (.nx ρ h) = b ρ h := nr rfl
@[simp] theorem then_rt (b : MS) (d : D) (h : MH) : Out.then b (.rt d h) = .rt d h := nr rfl
@[simp] theorem then_bk (b : MS) (ρ : Slots) (h : MH) : Out.then b (.bk ρ h) = .bk ρ h := nr rfl
@[simp] theorem then_ct (b : MS) (ρ : Slots) (h : MH) : Out.then b (.ct ρ h) = .ct ρ h := nr rfl
@[simp] theorem then_exc (b : MS) (x : Str) (fs : List (Str × D)) (ρ : Slots) (h : MH) : Out.then b (.exc x fs ρ h) = .exc x fs ρ h := nr rfl
@[simp] theorem mSkip_ev (ρ : Slots) (h : MH) : mSkip ρ h = .nx ρ h := nr rfl
@[simp] theorem mBreak_ev (ρ : Slots) (h : MH) : mBreak ρ h = .bk ρ h := nr rfl
@[simp] theorem mCont_ev (ρ : Slots) (h : MH) : mCont ρ h = .ct ρ h := nr rfl
@[simp] theorem mRetN_ev (ρ : Slots) (h : MH) : mRetN ρ h = .rt .non h := nr rfl
def asg1 (i : Nat) (ρ : Slots) : R D → Out
  | .ok d h => .nx (ρ.set i (some d)) h
  | .exc x fs h => .exc x fs ρ h
  | .bad => .bad
def ret1 (ρ : Slots) : R D → Out
  | .ok d h => .rt d h
  | .exc x fs h => .exc x fs ρ h
  | .bad => .bad
def drop1 (ρ : Slots) : R D → Out
  | .ok d h => .nx ρ h
  | .exc x fs h => .exc x fs ρ h
  | .bad => .bad
def if1 (a b : MS) (ρ : Slots) : R Bool → Out
  | .ok true h => a ρ h
  | .ok false h => b ρ h
  | .exc x fs h => .exc x fs ρ h
  | .bad => .bad
@[simp] theorem mAsg_ev (i : Nat) (e : ME) (ρ : Slots) (h : MH) : mAsg i e ρ h = asg1 i ρ (e ρ h) := by
  unfold mAsg asg1
  cases e ρ h <;> rfl
@[simp] theorem asg1_ok (i : Nat) (ρ : Slots) (d : D) (h : MH) : asg1 i ρ (.ok d h) = .nx (ρ.set i (some d)) h := nr rfl
@[simp] theorem mRet_ev (e : ME) (ρ : Slots) (h : MH) : mRet e ρ h = ret1 ρ (e ρ h) := by
  unfold mRet ret1
  cases e ρ h <;> rfl
@[simp] theorem ret1_ok (ρ : Slots) (d : D) (h : MH) : ret1 ρ (.ok d h) = .rt d h := nr rfl
@[simp] theorem mDrop_ev (e : ME) (ρ : Slots) (h : MH) : mDrop e ρ h = drop1 ρ (e ρ h) := by
  unfold mDrop drop1
  cases e ρ h <;> rfl
@[simp] theorem drop1_ok (ρ : Slots) (d : D) (h : MH) : drop1 ρ (.ok d h) = .nx ρ h := nr rfl
@[simp] theorem mIf_ev (c : MT) (a b : MS) (ρ : Slots) (h : MH) : mIf c a b ρ h = if1 a b ρ (c ρ h) := by
  unfold mIf if1
  cases c ρ h with
  | ok x h1 => cases x <;> rfl
  | _ => rfl
@[simp] theorem if1_t (a b : MS) (ρ : Slots) (h : MH) : if1 a b ρ (.ok true h) = a ρ h := nr rfl
@[simp] theorem if1_f (a b : MS) (ρ : Slots) (h : MH) : if1 a b ρ (.ok false h) = b ρ h := nr rfl
def for1 (tg : MG) (body : MS) (ρ : Slots) : R (List D × (MH → Bool)) → Out
  | .ok a h => forGo a.2 tg body a.1 ρ h
  | .exc x fs h => .exc x fs ρ h
  | .bad => .bad
@[simp] theorem mFor_ev (it : MI) (tg : MG) (body : MS) (ρ : Slots) (h : MH) : mFor it tg body ρ h = for1 tg body ρ (it ρ h) := by
  unfold mFor for1
  cases it ρ h <;> rfl
@[simp] theorem for1_ok (tg : MG) (body : MS) (ρ : Slots) (l : List D) (gd : MH → Bool) (h : MH) : for1 tg body ρ (.ok (l, gd) h) = forGo gd tg body l ρ h := nr rfl
def rg1 (f : Int → Nat → List D) : R D → R (List D × (MH → Bool))
  | .ok x h => dR1 f x h
  | .exc x fs h => .exc x fs h
  | .bad => .bad
@[simp] theorem mRange1_ev (a : ME) (ρ : Slots) (h : MH) : mRange1 a ρ h = rg1 rangeD (a ρ h) := by
  unfold mRange1 rg1
  cases a ρ h <;> rfl
@[simp] theorem mRev1_ev (a : ME) (ρ : Slots) (h : MH) : mRev1 a ρ h = rg1 revRangeD (a ρ h) := by
  unfold mRev1 rg1
  cases a ρ h <;> rfl
@[simp] theorem rg1_ok (f : Int → Nat → List D) (j : Int) (h : MH) : rg1 f (.ok (.int j) h) = if lim62 j = true then .ok (f 0 j.toNat, yes) h else .bad := nr rfl
def rg2 (f : Int → Nat → List D) (b : ME) (ρ : Slots) (r : R D) : R (List D × (MH → Bool)) := r.bind fun x h => (b ρ h).bind fun y h2 => dR2 f x y h2
def rg3 (f : Int → Nat → List D) (x : D) (r : R D) : R (List D × (MH → Bool)) := r.bind fun y h => dR2 f x y h
@[simp] theorem mRange2_ev (a b : ME) (ρ : Slots) (h : MH) : mRange2 a b ρ h = rg2 rangeD b ρ (a ρ h) := nr rfl
@[simp] theorem mRev2_ev (a b : ME) (ρ : Slots) (h : MH) : mRev2 a b ρ h = rg2 revRangeD b ρ (a ρ h) := nr rfl
@[simp] theorem rg2_ok (f : Int → Nat → List D) (b : ME) (ρ : Slots) (x : D) (h : MH) : rg2 f b ρ (.ok x h) = rg3 f x (b ρ h) := nr rfl
@[simp] theorem rg3_ok (f : Int → Nat → List D) (i j : Int) (h : MH) : rg3 f (.int i) (.ok (.int j) h) = if lim62 i = true ∧ lim62 j = true then .ok (f i (j - i).toNat, yes) h else .bad := nr rfl
def iter1 : R D → R (List D × (MH → Bool))
  | .ok x h => match itemsOf x h with
    | some r => .ok r h
    | none => .bad
  | .exc x fs h => .exc x fs h
  | .bad => .bad
@[simp] theorem mIter_ev (a : ME) (ρ : Slots) (h : MH) : mIter a ρ h = iter1 (a ρ h) := by
  unfold mIter iter1
  cases a ρ h <;> rfl
@[simp] theorem iter1_tup (l : List D) (h : MH) : iter1 (.ok (.tup l) h) = .ok (l, yes) h := nr rfl
@[simp] theorem iter1_str (z : Str) (h : MH) : iter1 (.ok (.str z) h) = .ok (z.cps.toList.map fun c => .str ⟨#[c]⟩, yes) h := nr rfl
theorem iter1_ref (i : Nat) (h : MH) (l : List D) (hl : getL h i = some l) : iter1 (.ok (.ref i) h) = .ok (l, fun h' => decide (getL h' i = some l)) h := by
  simp [iter1, itemsOf, hl]
@[simp] theorem yes_ev (h : MH) : yes h = true := nr rfl
@[simp] theorem mgName_ev (i : Nat) (d : D) (ρ : Slots) : mgName i d ρ = some (ρ.set i (some d)) := nr rfl
/-- a def's end -/
def fin1 : Out → R D
  | .nx _ h => .ok .non h
  | .rt d h => .ok d h
  | .exc x fs _ h => .exc x fs h
  | _ => .bad
@[simp] theorem fin1_nx (ρ : Slots) (h : MH) : fin1 (.nx ρ h) = .ok .non h := nr rfl
@[simp] theorem fin1_rt (d : D) (h : MH) : fin1 (.rt d h) = .ok d h := nr rfl
@[simp] theorem fin1_exc (x : Str) (fs : List (Str × D)) (ρ : Slots) (h : MH) : fin1 (.exc x fs ρ h) = .exc x fs h := nr rfl
@[simp] theorem rep0 : List.replicate 0 (none : Option D) = [] := nr rfl
/-! ### loops -/
theorem rangeD_get {i : Int} {n k : Nat} {d : D} (h : (rangeD i n)[k]? = some d) : k < n ∧ d = .int (i + (k : Int)) := by
  simp only [rangeD, List.getElem?_map, Option.map_eq_some_iff] at h
  obtain ⟨a, h1, h2⟩ := h
  have := List.getElem?_eq_some_iff.mp h1
  obtain ⟨lt, e⟩ := this
  simp at lt e
  subst e
  exact ⟨lt, h2.symm⟩
theorem revRangeD_get {i : Int} {n k : Nat} {d : D} (h : (revRangeD i n)[k]? = some d) : k < n ∧ d = .int (i + (n : Int) - 1 - (k : Int)) := by
  simp only [revRangeD, List.getElem?_map, Option.map_eq_some_iff] at h
  obtain ⟨a, h1, h2⟩ := h
  have := List.getElem?_eq_some_iff.mp h1
  obtain ⟨lt, e⟩ := this
  simp at lt e
  subst e
  exact ⟨lt, h2.symm⟩
@[simp] theorem rangeD_length (i : Int) (n : Nat) : (rangeD i n).length = n := by simp [rangeD]
@[simp] theorem revRangeD_length (i : Int) (n : Nat) : (revRangeD i n).length = n := by simp [revRangeD]
/-! ### numbers of bits, places -/
theorem bits_lt {i : Int} {n : Nat} (h : i.natAbs < 2 ^ n) : Builtin.Int.intBits i ≤ n := by
  unfold Builtin.Int.intBits
  split
  · omega
  · rename_i hz
    have : i.natAbs.log2 < n := (Nat.log2_lt (by simpa using hz)).mpr h
    omega
theorem atI_in {α : Type} {l : List α} {i : Int} (h0 : 0 ≤ i) (h1 : i < (l.length : Int)) : ∃ c, atI l i = some c ∧ l[i.toNat]? = some c := by
  have lt : i.toNat < l.length := by omega
  refine ⟨l[i.toNat], ?_, List.getElem?_eq_getElem lt⟩
  unfold atI ixN
  rw [if_pos h0, if_pos h1]
  simp [lt]
theorem atI_at {α : Type} {l : List α} {k : Nat} {c : α} (h : l[k]? = some c) : atI l (k : Int) = some c := by
  have lt := (List.getElem?_eq_some_iff.mp h).1
  unfold atI ixN
  rw [if_pos (by omega), if_pos (by omega)]
  simpa using h
/-! ### operators at plain values -/
section
variable (i j : Int) (x y : Str) (a b : Bool) (l m : List D) (h : MH)
@[simp] theorem dAdd_int : dAdd (.int i) (.int j) h = .ok (.int (i + j)) h := nr rfl
@[simp] theorem dAdd_str : dAdd (.str x) (.str y) h = if x.length + y.length ≤ 1000000 then .ok (.str (x ++ y)) h else .bad := nr rfl
@[simp] theorem dAdd_tup : dAdd (.tup l) (.tup m) h = if l.length + m.length ≤ 1000000 then .ok (.tup (l ++ m)) h else .bad := nr rfl
@[simp] theorem dSub_int : dSub (.int i) (.int j) h = .ok (.int (i - j)) h := nr rfl
theorem dMul_int : dMul (.int i) (.int j) h = if (Builtin.Int.intBits i : Int) + (Builtin.Int.intBits j : Int) ≤ 134217728 then .ok (.int (i * j)) h else .bad := rfl
@[simp] theorem dMul_str : dMul (.str x) (.int j) h = if j ≤ 1000000 ∧ -1000000 ≤ j ∧ x.length * j.toNat ≤ 1000000 then .ok (.str (Txt.mul x j)) h else .bad := nr rfl
theorem dFdiv_int : dFdiv (.int i) (.int j) h = if 0 < j ∧ j.natAbs.log2 < 9000 then .ok (.int (i / j)) h else .bad := rfl
@[simp] theorem dMod_int : dMod (.int i) (.int j) h = if 0 < j then .ok (.int (i % j)) h else .bad := nr rfl
@[simp] theorem dFdiv_small (h0 : 0 < j) (h1 : j < 18446744073709551616) : dFdiv (.int i) (.int j) h = .ok (.int (i / j)) h := by
  rw [dFdiv_int, if_pos ⟨h0, Nat.lt_trans (PySem.Flt.log2_lt_of (k := 64) (by decide) (by omega)) (by decide)⟩]
theorem dMul_bits {a b : Nat} (ha : Builtin.Int.intBits i ≤ a) (hb : Builtin.Int.intBits j ≤ b) (hab : a + b ≤ 134217728) : dMul (.int i) (.int j) h = .ok (.int (i * j)) h := by
  rw [dMul_int, if_pos (by omega)]
theorem bits_small {i : Int} (h0 : -18446744073709551616 < i) (h1 : i < 18446744073709551616) : Builtin.Int.intBits i ≤ 64 := bits_lt (by omega)
theorem dMul_s (h0 : -18446744073709551616 < i) (h1 : i < 18446744073709551616) (h2 : -18446744073709551616 < j) (h3 : j < 18446744073709551616) : dMul (.int i) (.int j) h = .ok (.int (i * j)) h := dMul_bits i j h (bits_small h0 h1) (bits_small h2 h3) (by decide)
@[simp] theorem dPow_int : dPow (.int i) (.int j) h = if 0 ≤ j ∧ j ≤ 1000000 ∧ i.natAbs < 2 ^ 64 then .ok (.int (i ^ j.toNat)) h else .bad := nr rfl
@[simp] theorem dShl_int : dShl (.int i) (.int j) h = if 0 ≤ j ∧ j ≤ 1000000 ∧ i.natAbs < 2 ^ 64 then .ok (.int (i * 2 ^ j.toNat)) h else .bad := nr rfl
@[simp] theorem dLt_int : dLt (.int i) (.int j) h = .ok (.bl (decide (i < j))) h := nr rfl
@[simp] theorem dLe_int : dLe (.int i) (.int j) h = .ok (.bl (decide (i ≤ j))) h := nr rfl
@[simp] theorem dGt_int : dGt (.int i) (.int j) h = .ok (.bl (decide (j < i))) h := nr rfl
@[simp] theorem dGe_int : dGe (.int i) (.int j) h = .ok (.bl (decide (j ≤ i))) h := nr rfl
@[simp] theorem dNeg_int : dNeg (.int i) h = .ok (.int (-i)) h := nr rfl
@[simp] theorem eqD_int : eqD (.int i) (.int j) h = some (decide (i = j)) := by
  simp [eqD, scalD]
@[simp] theorem eqD_str : eqD (.str x) (.str y) h = some (decide (x = y)) := by
  simp [eqD, scalD]
@[simp] theorem eqD_bl : eqD (.bl a) (.bl b) h = some (decide (a = b)) := by
  simp [eqD, scalD]
@[simp] theorem eqD_non : eqD .non .non h = some true := by
  simp [eqD, scalD]
@[simp] theorem eqD_int_non : eqD (.int i) .non h = some false := by
  simp [eqD, scalD]
@[simp] theorem eqD_non_int : eqD .non (.int i) h = some false := by
  simp [eqD, scalD]
theorem dEq_of {a b : D} {k : Bool} {h : MH} (e : eqD a b h = some k) : dEq a b h = .ok (.bl k) h := by unfold dEq; rw [e]
theorem dNe_of {a b : D} {k : Bool} {h : MH} (e : eqD a b h = some k) : dNe a b h = .ok (.bl (!k)) h := by unfold dNe; rw [e]
@[simp] theorem dEq_int : dEq (.int i) (.int j) h = .ok (.bl (decide (i = j))) h := dEq_of (eqD_int i j h)
@[simp] theorem dNe_int : dNe (.int i) (.int j) h = .ok (.bl (!decide (i = j))) h := dNe_of (eqD_int i j h)
@[simp] theorem dEq_str : dEq (.str x) (.str y) h = .ok (.bl (decide (x = y))) h := dEq_of (eqD_str x y h)
@[simp] theorem dNe_str : dNe (.str x) (.str y) h = .ok (.bl (!decide (x = y))) h := dNe_of (eqD_str x y h)
@[simp] theorem dEq_bl : dEq (.bl a) (.bl b) h = .ok (.bl (decide (a = b))) h := dEq_of (eqD_bl a b h)
@[simp] theorem dIsN_ev (d : D) : dIsN d .non h = .ok (.bl (decide (d = .non))) h := nr rfl
@[simp] theorem dNotN_ev (d : D) : dNotN d .non h = .ok (.bl (!decide (d = .non))) h := nr rfl
@[simp] theorem dLen_str : dLen [.str x] h = if x.length ≤ 1000000 then .ok (.int x.length) h else .bad := nr rfl
@[simp] theorem dLen_tup : dLen [.tup l] h = .ok (.int l.length) h := nr rfl
theorem dLen_ref {i : Nat} {h : MH} {l : List D} (e : getL h i = some l) : dLen [.ref i] h = .ok (.int l.length) h := by simp [dLen, e]
@[simp] theorem dAbs_ev : dAbs [.int i] h = .ok (.int (if i < 0 then -i else i)) h := nr rfl
@[simp] theorem dMax_ev : dMax [.int i, .int j] h = .ok (.int (if j > i then j else i)) h := nr rfl
@[simp] theorem dMin_ev : dMin [.int i, .int j] h = .ok (.int (if j < i then j else i)) h := nr rfl
@[simp] theorem dInt_int : dInt [.int i] h = .ok (.int i) h := nr rfl
@[simp] theorem dInt_bl : dInt [.bl a] h = .ok (.int (if a then 1 else 0)) h := nr rfl
@[simp] theorem dSl_str (lo hi : Option Int) : dSl (.str x) lo hi h = if x.length ≤ 1000000 then .ok (.str (cutS x lo hi)) h else .bad := nr rfl
@[simp] theorem dSl_tup (lo hi : Option Int) : dSl (.tup l) lo hi h = .ok (.tup (cutD l lo hi)) h := nr rfl
theorem dSl_ref {i : Nat} {h : MH} {l : List D} (e : getL h i = some l) (lo hi : Option Int) : dSl (.ref i) lo hi h = .ok (.ref h.length) (h ++ [.lst (cutD l lo hi)]) := by simp [dSl, e]
theorem dIx_str {c : Nat} {x : Str} {i : Int} (hz : x.length ≤ 1000000) (e : atI x.cps.toList i = some c) : dIx (.str x) (.int i) h = .ok (.str ⟨#[c]⟩) h := by
  simp [dIx, hz, e]
theorem dIx_tup {d : D} {l : List D} {i : Int} (e : atI l i = some d) : dIx (.tup l) (.int i) h = .ok d h := by simp [dIx, seqOf, e]
theorem dIx_ref {d : D} {l : List D} {k : Nat} {i : Int} {h : MH} (hl : getL h k = some l) (e : atI l i = some d) : dIx (.ref k) (.int i) h = .ok d h := by simp [dIx, seqOf, hl, e]
end
end Mi
namespace Mi
open PySem L2

/-! ### zip of two lists -/
def zipD (l m : List D) : List D := (l.zip m).map fun p => .tup [p.1, p.2]
def mZip (a b : ME) : MI := fun ρ h => (a ρ h).bind fun x h1 => (b ρ h1).bind fun y h2 => match x, y with
  | .ref i, .ref j => match getL h2 i, getL h2 j with
    | some l, some m => .ok (zipD l m, fun h' => decide (getL h' i = some l) && decide (getL h' j = some m)) h2
    | _, _ => .bad
  | _, _ => .bad
section
variable {X : Cx} {g : G} {W : WX} {a b : Expr} {ma mb : ME} {pos : Pos}
theorem zipD_length (l m : List D) : (zipD l m).length = min l.length m.length := by simp [zipD]
theorem zipD_get {l m : List D} {k : Nat} {d : D} (h : (zipD l m)[k]? = some d) : ∃ x y, l[k]? = some x ∧ m[k]? = some y ∧ d = .tup [x, y] := by
  simp only [zipD, List.getElem?_map, Option.map_eq_some_iff] at h
  obtain ⟨⟨x, y⟩, h1, h2⟩ := h
  rw [List.getElem?_zip_eq_some] at h1
  exact ⟨x, y, h1.1, h1.2, h2.symm⟩
/-! ### xs[::-1], list(range(..)) -/
def dRevL (x : D) (h : MH) : R D := match x with
  | .ref i => match getL h i with
    | some l => .ok (.ref h.length) (h ++ [.lst l.reverse])
    | none => .bad
  | _ => .bad
def mRevL (a : ME) : ME := mUn dRevL a
theorem se_revL {k : Nat} {p1 p2 p3 : Pos} (ha : PE X a (tE g W ma)) (hK : X.K = g.K := by rfl) : PE X (.Subscript a (.Slice none none (some (.UnaryOp .USub (.Constant (.int 1) k p1) p2)) p3) pos) (tE g W (mRevL ma)) :=
  pe_mono (pe_revL ha) fun σ H Q ⟨ρ, h, μ, sr, hr, bk⟩ => step (rel := VR) (rel' := VR) (ma := ma) (Q' := Q) sr hr bk fun x d h1 H1 μ1 m1 sr1 hr1 vx bk1 => by
    rw [hK]
    cases vx with
    | @ref p i hi =>
      simp only [dRevL] at bk1
      split at bk1
      · rename_i l e
        obtain ⟨xs, hs, vs⟩ := hr1.list hi e
        exact ⟨p, xs, rfl, hs, fun r hr' => bk1.newL hr1 vs.reverse hr'⟩
      · exact bk1.elim
    | _ => exact bk1.elim
def lstRg (i j : Int) (h : MH) : R D := if 0 ≤ i ∧ j ≤ 1000000 ∧ i ≤ 1000000 ∧ 0 ≤ j then .ok (.ref h.length) (h ++ [.lst (rangeD i (j - i).toNat)]) else .bad
def mListRg1 (a : ME) : ME := mUn (fun x h => match x with
  | .int j => lstRg 0 j h
  | _ => .bad) a
def mListRg2 (a b : ME) : ME := mBin (fun x y h => match x, y with
  | .int i, .int j => lstRg i j h
  | _, _ => .bad) a b
/-! ### t.index(x) -/
def fidx (z : Str) : List Str → Option Nat
  | [] => none
  | y :: r => if y = z then some 0 else (fidx z r).map (· + 1)
def dTIdx (x y : D) (h : MH) : R D := match x, y with
  | .tup l, .str z => match allStr l with
    | some ys => match fidx z ys with
      | some j => .ok (.int j) h
      | none => .bad
    | none => .bad
  | _, _ => .bad
def mTIndex (a b : ME) : ME := fun ρ h => (a ρ h).bind fun x h1 => match x with
  | .tup l => (b ρ h1).bind fun y h2 => dTIdx (.tup l) y h2
  | _ => .bad
end
/-! ### sorted: ints, texts (fewer than 64) -/
abbrev ltC : List Nat → List Nat → Bool := PySem.Spec.ltCps
def leS (a b : Str) : Bool := !ltC b.cps.toList a.cps.toList
def sortS (l : List Str) : List Str := l.mergeSort leS
def sortI (l : List Int) : List Int := l.mergeSort fun a b => decide (a ≤ b)
def allInt : List D → Option (List Int)
  | [] => some []
  | .int b :: r => (allInt r).map (b :: ·)
  | _ => none
def dSorted : List D → MH → R D
  | [.ref i], h => match getL h i with
    | some l => if l.length < 64 then match allStr l with
      | some ys => .ok (.ref h.length) (h ++ [.lst ((sortS ys).map .str)])
      | none => match allInt l with
        | some ys => .ok (.ref h.length) (h ++ [.lst ((sortI ys).map .int)])
        | none => .bad else .bad
    | none => .bad
  | _, _ => .bad
section
variable {X : Cx} {g : G}
end
end Mi

/-! A calculus for the mirror: what must hold ahead of a part so that a thing holds behind it. -/
namespace Mi
open PySem L2
abbrev XE := Str → List (Str × D) → MH → Prop
@[irreducible] def Sat {α : Type} (r : R α) (Q : α → MH → Prop) (E : XE) : Prop := match r with
  | .ok d h => Q d h
  | .exc x fs h => E x fs h
  | .bad => False
abbrev SP := Slots → MH → Prop
abbrev SX := Str → List (Str × D) → Slots → MH → Prop
@[irreducible] def OS (o : Out) (N : SP) (T : D → MH → Prop) (B C : SP) (E : SX) : Prop := match o with
  | .nx ρ h => N ρ h
  | .rt d h => T d h
  | .bk ρ h => B ρ h
  | .ct ρ h => C ρ h
  | .exc x fs ρ h => E x fs ρ h
  | .bad => False
abbrev noX : XE := fun _ _ _ => False
abbrev noS : SP := fun _ _ => False
section
variable {α : Type} {Q : α → MH → Prop} {E : XE}
theorem Sat_ok (d : α) (h : MH) : Sat (.ok d h) Q E = Q d h := by unfold Sat; rfl
theorem Sat_exc (x : Str) (fs : List (Str × D)) (h : MH) : Sat (.exc x fs h : R α) Q E = E x fs h := by unfold Sat; rfl
theorem Sat_bad : Sat (.bad : R α) Q E = False := by unfold Sat; rfl
variable {N : SP} {T : D → MH → Prop} {B C : SP} {Es : SX}
theorem OS_nx (ρ : Slots) (h : MH) : OS (.nx ρ h) N T B C Es = N ρ h := by unfold OS; rfl
theorem OS_rt (d : D) (h : MH) : OS (.rt d h) N T B C Es = T d h := by unfold OS; rfl
theorem OS_bk (ρ : Slots) (h : MH) : OS (.bk ρ h) N T B C Es = B ρ h := by unfold OS; rfl
theorem OS_ct (ρ : Slots) (h : MH) : OS (.ct ρ h) N T B C Es = C ρ h := by unfold OS; rfl
theorem OS_exc (x : Str) (fs : List (Str × D)) (ρ : Slots) (h : MH) : OS (.exc x fs ρ h) N T B C Es = Es x fs ρ h := by unfold OS; rfl
theorem OS_bad : OS .bad N T B C Es = False := by unfold OS; rfl
end
theorem Sat.monoE {α : Type} {r : R α} {Q Q' : α → MH → Prop} {E E' : XE} (s : Sat r Q E) (k : ∀ d h, Q d h → Q' d h) (k' : ∀ x fs h, E x fs h → E' x fs h) : Sat r Q' E' := by
  cases r with
  | ok d h => rw [Sat_ok] at s ⊢; exact k d h s
  | exc x fs h => rw [Sat_exc] at s ⊢; exact k' x fs h s
  | _ => rw [Sat_bad] at s; exact s.elim
theorem Sat.mono {α : Type} {r : R α} {Q Q' : α → MH → Prop} {E : XE} (s : Sat r Q noX) (k : ∀ d h, Q d h → Q' d h) : Sat r Q' E := s.monoE k fun _ _ _ z => z.elim
theorem Sat.get {α : Type} {r : R α} {Q : α → MH → Prop} (s : Sat r Q noX) : ∃ d h, r = .ok d h ∧ Q d h := by
  cases r with
  | ok d h => rw [Sat_ok] at s; exact ⟨d, h, rfl, s⟩
  | exc x fs h => rw [Sat_exc] at s; exact s.elim
  | _ => rw [Sat_bad] at s; exact s.elim
theorem Sat.bnd {α β : Type} {r : R α} {f : α → MH → R β} {Q : β → MH → Prop} {E : XE} (s : Sat r (fun x h => Sat (f x h) Q E) E) : Sat (r.bind f) Q E := by
  cases r with
  | ok d h => rw [Sat_ok] at s; exact s
  | exc x fs h => rw [Sat_exc] at s; show Sat (.exc x fs h) Q E; rw [Sat_exc]; exact s
  | _ => rw [Sat_bad] at s; exact s.elim
theorem Sat.ot {α : Type} {r : R α} {ρ : Slots} {f : α → MH → Out} {N : SP} {T : D → MH → Prop} {B C : SP} {E : SX} (s : Sat r (fun x h => OS (f x h) N T B C E) (fun x fs h => E x fs ρ h)) : OS (r.out ρ f) N T B C E := by
  cases r with
  | ok d h => rw [Sat_ok] at s; exact s
  | exc x fs h => rw [Sat_exc] at s; show OS (.exc x fs ρ h) N T B C E; rw [OS_exc]; exact s
  | _ => rw [Sat_bad] at s; exact s.elim
theorem OS.mono {o : Out} {N N' : SP} {T T' : D → MH → Prop} {B B' C C' : SP} {E E' : SX} (s : OS o N T B C E) (kn : ∀ ρ h, N ρ h → N' ρ h) (kt : ∀ d h, T d h → T' d h) (kb : ∀ ρ h, B ρ h → B' ρ h) (kc : ∀ ρ h, C ρ h → C' ρ h) (ke : ∀ x fs ρ h, E x fs ρ h → E' x fs ρ h) : OS o N' T' B' C' E' := by
  cases o with
  | nx ρ h => rw [OS_nx] at s ⊢; exact kn ρ h s
  | rt d h => rw [OS_rt] at s ⊢; exact kt d h s
  | bk ρ h => rw [OS_bk] at s ⊢; exact kb ρ h s
  | ct ρ h => rw [OS_ct] at s ⊢; exact kc ρ h s
  | exc x fs ρ h => rw [OS_exc] at s ⊢; exact ke x fs ρ h s
  | bad => rw [OS_bad] at s; exact s.elim
theorem w_ok {α : Type} {Q : α → MH → Prop} {E : XE} {h : MH} {d : α} (q : Q d h) : Sat (.ok d h) Q E := by rw [Sat_ok]; exact q
theorem w_eq {α : Type} {Q : α → MH → Prop} {E : XE} {x : R α} {d : α} {h' : MH} (e : x = .ok d h') (q : Q d h') : Sat x Q E := by rw [e]; exact w_ok q
theorem w_nx {N : SP} {T : D → MH → Prop} {B C : SP} {E : SX} {ρ : Slots} {h : MH} (q : N ρ h) : OS (.nx ρ h) N T B C E := by rw [OS_nx]; exact q
theorem w_rt {N : SP} {T : D → MH → Prop} {B C : SP} {E : SX} {d : D} {h : MH} (q : T d h) : OS (.rt d h) N T B C E := by rw [OS_rt]; exact q
theorem w_bk {N : SP} {T : D → MH → Prop} {B C : SP} {E : SX} {ρ : Slots} {h : MH} (q : B ρ h) : OS (.bk ρ h) N T B C E := by rw [OS_bk]; exact q
theorem w_ct {N : SP} {T : D → MH → Prop} {B C : SP} {E : SX} {ρ : Slots} {h : MH} (q : C ρ h) : OS (.ct ρ h) N T B C E := by rw [OS_ct]; exact q
def Br (p A B : Prop) : Prop := (p → A) ∧ (¬p → B)
theorem br_t {p A B : Prop} (hp : p) (a : A) : Br p A B := ⟨fun _ => a, fun n => absurd hp n⟩
theorem br_f {p A B : Prop} (hp : ¬p) (b : B) : Br p A B := ⟨fun n => absurd n hp, fun _ => b⟩
theorem br_d {p : Prop} [Decidable p] {A B : Prop} (a : p → A) (b : ¬p → B) : Br (decide p = true) A B := ⟨fun n => a (of_decide_eq_true n), fun n => b (of_decide_eq_false (by simpa using n))⟩
theorem br_n {b : Bool} {A B : Prop} (a : Br (b = true) B A) : Br ((!b) = true) A B := ⟨fun n => a.2 (by simp at n; simp [n]), fun n => a.1 (by simpa using n)⟩
theorem br_dt {p : Prop} [Decidable p] {A B : Prop} (hp : p) (a : A) : Br (decide p = true) A B := br_t (decide_eq_true hp) a
theorem br_df {p : Prop} [Decidable p] {A B : Prop} (hp : ¬p) (a : B) : Br (decide p = true) A B := br_f (by simp [hp]) a
theorem br_tt {A B : Prop} (a : A) : Br (true = true) A B := br_t rfl a
theorem br_ff {A B : Prop} (b : B) : Br (false = true) A B := br_f (by decide) b
section
variable {α : Type} {Q : D → MH → Prop} {QA : List D → MH → Prop} {QB : Bool → MH → Prop} {QP : Option Int → MH → Prop} {QI : List D × (MH → Bool) → MH → Prop} {E : XE} {ρ : Slots} {h : MH} {a b c e : ME} {r : MA} {ta tb : MT} {lo hi : MP}
theorem w_var {i : Nat} {d : D} (e : ρ[i]? = some (some d)) (q : Q d h) : Sat (mVar i ρ h) Q E := by
  unfold mVar
  rw [e]
  exact w_ok q
theorem w_c {d : D} (q : Q d h) : Sat (mC d ρ h) Q E := w_ok q
theorem w_bin {f : D → D → MH → R D} (q : Sat (a ρ h) (fun x h1 => Sat (b ρ h1) (fun y h2 => Sat (f x y h2) Q E) E) E) : Sat (mBin f a b ρ h) Q E := Sat.bnd (q.monoE (fun _ _ z => Sat.bnd z) fun _ _ _ z => z)
theorem w_un {f : D → MH → R D} (q : Sat (a ρ h) (fun x h1 => Sat (f x h1) Q E) E) : Sat (mUn f a ρ h) Q E := Sat.bnd q
theorem w_nil (q : QA [] h) : Sat (mNil ρ h) QA E := w_ok q
theorem w_cons (q : Sat (a ρ h) (fun x h1 => Sat (r ρ h1) (fun xs h2 => QA (x :: xs) h2) E) E) : Sat (mCons a r ρ h) QA E := Sat.bnd (q.monoE (fun _ _ z => Sat.bnd (z.monoE (fun _ _ z => w_ok z) fun _ _ _ z => z)) fun _ _ _ z => z)
def toTup (xs : List D) (h1 : MH) : R D := if xs.length ≤ 1000000 then .ok (.tup xs) h1 else .bad
def toLst (xs : List D) (h1 : MH) : R D := if xs.length ≤ 1000000 then .ok (.ref h1.length) (h1 ++ [.lst xs]) else .bad
theorem w_tup (q : Sat (r ρ h) (fun xs h1 => Sat (toTup xs h1) Q E) E) : Sat (mTup r ρ h) Q E := Sat.bnd q
theorem w_lst (q : Sat (r ρ h) (fun xs h1 => Sat (toLst xs h1) Q E) E) : Sat (mLst r ρ h) Q E := Sat.bnd q
theorem w_toTup {xs : List D} (l : xs.length ≤ 1000000) (q : Q (.tup xs) h) : Sat (toTup xs h) Q E := by unfold toTup; rw [if_pos l]; exact w_ok q
theorem w_toLst {xs : List D} (l : xs.length ≤ 1000000) (q : Q (.ref h.length) (h ++ [.lst xs])) : Sat (toLst xs h) Q E := by unfold toLst; rw [if_pos l]; exact w_ok q
theorem w_call {F : List D → MH → R D} (q : Sat (r ρ h) (fun xs h1 => Sat (F xs h1) Q E) E) : Sat (mCall F r ρ h) Q E := Sat.bnd q
def unB (x : D) (h1 : MH) : R Bool := match x with
  | .bl b => .ok b h1
  | _ => .bad
theorem w_B (q : Sat (a ρ h) (fun x h1 => Sat (unB x h1) QB E) E) : Sat (mB a ρ h) QB E := by
  refine Sat.bnd (q.monoE (fun x _ z => ?_) fun _ _ _ z => z)
  cases x <;> exact z
theorem w_unB {b : Bool} (q : QB b h) : Sat (unB (.bl b) h) QB E := w_ok q
theorem br_if {p : Prop} [Decidable p] {α : Type} {x y : R α} {Q : α → MH → Prop} (q : Br p (Sat x Q E) (Sat y Q E)) : Sat (if p then x else y) Q E := by
  split
  · rename_i hp; exact q.1 hp
  · rename_i hp; exact q.2 hp
theorem w_and (q : Sat (ta ρ h) (fun x h1 => Br (x = true) (Sat (tb ρ h1) QB E) (QB false h1)) E) : Sat (mAnd ta tb ρ h) QB E := Sat.bnd (q.monoE (fun _ _ z => br_if ⟨z.1, fun n => w_ok (z.2 n)⟩) fun _ _ _ z => z)
theorem w_or (q : Sat (ta ρ h) (fun x h1 => Br (x = true) (QB true h1) (Sat (tb ρ h1) QB E)) E) : Sat (mOr ta tb ρ h) QB E := Sat.bnd (q.monoE (fun _ _ z => br_if ⟨fun n => w_ok (z.1 n), z.2⟩) fun _ _ _ z => z)
theorem w_not (q : Sat (ta ρ h) (fun x h1 => QB (!x) h1) E) : Sat (mNot ta ρ h) QB E := Sat.bnd (q.monoE (fun _ _ z => w_ok z) fun _ _ _ z => z)
def andK (b : ME) (ρ : Slots) (x : D) (h1 : MH) : R D := match x with
  | .bl true => b ρ h1
  | .bl false => .ok (.bl false) h1
  | _ => .bad
def orK (b : ME) (ρ : Slots) (x : D) (h1 : MH) : R D := match x with
  | .bl false => b ρ h1
  | .bl true => .ok (.bl true) h1
  | _ => .bad
def notK (x : D) (h1 : MH) : R D := match x with
  | .bl b => .ok (.bl (!b)) h1
  | _ => .bad
theorem w_andV (q : Sat (a ρ h) (fun x h1 => Sat (andK b ρ x h1) Q E) E) : Sat (mAndV a b ρ h) Q E := Sat.bnd q
theorem w_orV (q : Sat (a ρ h) (fun x h1 => Sat (orK b ρ x h1) Q E) E) : Sat (mOrV a b ρ h) Q E := Sat.bnd q
theorem w_notV (q : Sat (a ρ h) (fun x h1 => Sat (notK x h1) Q E) E) : Sat (mNotV a ρ h) Q E := Sat.bnd q
theorem w_andK {k : Bool} (q : Br (k = true) (Sat (b ρ h) Q E) (Q (.bl false) h)) : Sat (andK b ρ (.bl k) h) Q E := by
  cases k
  · exact w_ok (q.2 (by decide))
  · exact q.1 rfl
theorem w_orK {k : Bool} (q : Br (k = true) (Q (.bl true) h) (Sat (b ρ h) Q E)) : Sat (orK b ρ (.bl k) h) Q E := by
  cases k
  · exact q.2 (by decide)
  · exact w_ok (q.1 rfl)
theorem w_notK {k : Bool} (q : Q (.bl (!k)) h) : Sat (notK (.bl k) h) Q E := w_ok q
theorem w_ifE (q : Sat (ta ρ h) (fun x h1 => Br (x = true) (Sat (a ρ h1) Q E) (Sat (b ρ h1) Q E)) E) : Sat (mIfE ta a b ρ h) Q E := Sat.bnd (q.monoE (fun _ _ z => br_if z) fun _ _ _ z => z)
theorem w_sl (q : Sat (a ρ h) (fun x h1 => Sat (lo ρ h1) (fun l h2 => Sat (hi ρ h2) (fun u h3 => Sat (dSl x l u h3) Q E) E) E) E) : Sat (mSl a lo hi ρ h) Q E :=
  Sat.bnd (q.monoE (fun _ _ z => Sat.bnd (z.monoE (fun _ _ z => Sat.bnd z) fun _ _ _ z => z)) fun _ _ _ z => z)
theorem w_no (q : QP none h) : Sat (mNo ρ h) QP E := w_ok q
def unI (x : D) (h1 : MH) : R (Option Int) := match x with
  | .int i => .ok (some i) h1
  | _ => .bad
theorem w_some (q : Sat (a ρ h) (fun x h1 => Sat (unI x h1) QP E) E) : Sat (mSome a ρ h) QP E := by
  refine Sat.bnd (q.monoE (fun x _ z => ?_) fun _ _ _ z => z)
  cases x <;> exact z
theorem w_unI {i : Int} (q : QP (some i) h) : Sat (unI (.int i) h) QP E := w_ok q
theorem w_meth {T : D → MH → Bool} {f : D → List D → MH → R D} (q : Sat (a ρ h) (fun x h1 => T x h1 = true ∧ Sat (r ρ h1) (fun xs h2 => Sat (f x xs h2) Q E) E) E) : Sat (mMeth T f a r ρ h) Q E :=
  Sat.bnd (q.monoE (fun _ _ z => by
    rw [if_pos z.1]
    exact Sat.bnd z.2) fun _ _ _ z => z)
theorem w_isi {T : String} (q : Sat (a ρ h) (fun x h1 => Sat (isi1 T (.ok x h1)) Q E) E) : Sat (mIsi T a ρ h) Q E := Sat.bnd q
def iterK (x : D) (h1 : MH) : R (List D × (MH → Bool)) := iter1 (.ok x h1)
theorem w_iter (q : Sat (a ρ h) (fun x h1 => Sat (iter1 (.ok x h1)) QI E) E) : Sat (mIter a ρ h) QI E := Sat.bnd q
theorem w_range1 (q : Sat (a ρ h) (fun x h1 => Sat (dR1 rangeD x h1) QI E) E) : Sat (mRange1 a ρ h) QI E := Sat.bnd q
theorem w_rev1 (q : Sat (a ρ h) (fun x h1 => Sat (dR1 revRangeD x h1) QI E) E) : Sat (mRev1 a ρ h) QI E := Sat.bnd q
theorem w_range2 (q : Sat (a ρ h) (fun x h1 => Sat (b ρ h1) (fun y h2 => Sat (dR2 rangeD x y h2) QI E) E) E) : Sat (mRange2 a b ρ h) QI E := Sat.bnd (q.monoE (fun _ _ z => Sat.bnd z) fun _ _ _ z => z)
theorem w_rev2 (q : Sat (a ρ h) (fun x h1 => Sat (b ρ h1) (fun y h2 => Sat (dR2 revRangeD x y h2) QI E) E) E) : Sat (mRev2 a b ρ h) QI E := Sat.bnd (q.monoE (fun _ _ z => Sat.bnd z) fun _ _ _ z => z)
theorem lim_in {j : Int} (h0 : -1000000000000000000 ≤ j) (h1 : j ≤ 1000000000000000000) : lim62 j = true := by unfold lim62; simp; omega
theorem w_dR1 {f : Int → Nat → List D} {j : Int} (l : -1000000000000000000 ≤ j ∧ j ≤ 1000000000000000000) (q : QI (f 0 j.toNat, yes) h) : Sat (dR1 f (.int j) h) QI E := by
  unfold dR1; simp only [lim_in l.1 l.2, if_true]; exact w_ok q
theorem w_dR2 {f : Int → Nat → List D} {i j : Int} (l : (-1000000000000000000 ≤ i ∧ i ≤ 1000000000000000000) ∧ -1000000000000000000 ≤ j ∧ j ≤ 1000000000000000000) (q : QI (f i (j - i).toNat, yes) h) : Sat (dR2 f (.int i) (.int j) h) QI E := by
  unfold dR2; simp only [lim_in l.1.1 l.1.2, lim_in l.2.1 l.2.2, true_and, if_true]; exact w_ok q
def zipK (x y : D) (h2 : MH) : R (List D × (MH → Bool)) := match x, y with
  | .ref i, .ref j => match getL h2 i, getL h2 j with
    | some l, some m => .ok (zipD l m, fun h' => decide (getL h' i = some l) && decide (getL h' j = some m)) h2
    | _, _ => .bad
  | _, _ => .bad
theorem w_zip (q : Sat (a ρ h) (fun x h1 => Sat (b ρ h1) (fun y h2 => Sat (zipK x y h2) QI E) E) E) : Sat (mZip a b ρ h) QI E := Sat.bnd (q.monoE (fun _ _ z => Sat.bnd z) fun _ _ _ z => z)
theorem w_lc {it : MI} {tg : MG} {vs : List Nat} (q : Sat (it ρ h) (fun a h1 => Sat (lcGo a.2 tg ta e h1.length (wipeD ρ vs) a.1 (h1 ++ [.lst []])) Q E) E) : Sat (mLc it tg ta e vs ρ h) Q E := Sat.bnd q
theorem w_revL (q : Sat (a ρ h) (fun x h1 => Sat (dRevL x h1) Q E) E) : Sat (mRevL a ρ h) Q E := Sat.bnd q
theorem w_dRevL {i : Nat} {l : List D} (hl : getL h i = some l) (q : Q (.ref h.length) (h ++ [.lst l.reverse])) : Sat (dRevL (.ref i) h) Q E := by
  simp only [dRevL, hl]; exact w_ok q
def lrK (x : D) (h : MH) : R D := match x with
  | .int j => lstRg 0 j h
  | _ => .bad
theorem w_listRg1 (q : Sat (a ρ h) (fun x h1 => Sat (lrK x h1) Q E) E) : Sat (mListRg1 a ρ h) Q E := Sat.bnd q
theorem w_tindex (q : Sat (a ρ h) (fun x h1 => ∃ l, x = .tup l ∧ Sat (b ρ h1) (fun y h2 => Sat (dTIdx x y h2) Q E) E) E) : Sat (mTIndex a b ρ h) Q E := Sat.bnd (q.monoE (fun _ _ z => by
  obtain ⟨l, rfl, z⟩ := z
  exact Sat.bnd z) fun _ _ _ z => z)
def chK (f' : D → D → MH → R D) (c : ME) (ρ : Slots) (y z : D) (h3 : MH) : R D := match z with
  | .bl true => (c ρ h3).bind fun w h4 => f' y w h4
  | .bl false => .ok (.bl false) h3
  | _ => .bad
theorem w_chain {f f' : D → D → MH → R D} (q : Sat (a ρ h) (fun x h1 => Sat (b ρ h1) (fun y h2 => Sat (f x y h2) (fun z h3 => Sat (chK f' c ρ y z h3) Q E) E) E) E) : Sat (mChain f f' a b c ρ h) Q E :=
  Sat.bnd (q.monoE (fun _ _ z => Sat.bnd (z.monoE (fun _ _ z => Sat.bnd z) fun _ _ _ z => z)) fun _ _ _ z => z)
theorem w_chK {f' : D → D → MH → R D} {y : D} {k : Bool} (q : Br (k = true) (Sat (c ρ h) (fun w h4 => Sat (f' y w h4) Q E) E) (Q (.bl false) h)) : Sat (chK f' c ρ y (.bl k) h) Q E := by
  cases k
  · exact w_ok (q.2 (by decide))
  · exact Sat.bnd (q.1 rfl)
end
section
variable {N : SP} {T : D → MH → Prop} {B C : SP} {E : SX} {ρ : Slots} {h : MH} {a b c e : ME} {r : MA} {ta tb : MT} {sa sb : MS}
theorem w_seq (q : OS (sa ρ h) (fun ρ' h' => OS (sb ρ' h') N T B C E) T B C E) : OS (mSeq sa sb ρ h) N T B C E := by
  unfold mSeq
  cases e : sa ρ h with
  | nx ρ' h' => rw [e, OS_nx] at q; exact q
  | rt d h' => rw [e, OS_rt] at q; exact w_rt q
  | bk ρ' h' => rw [e, OS_bk] at q; exact w_bk q
  | ct ρ' h' => rw [e, OS_ct] at q; exact w_ct q
  | exc x fs ρ' h' => rw [e, OS_exc] at q; simp only [OS_exc]; exact q
  | bad => rw [e, OS_bad] at q; exact q.elim
theorem w_skip (q : N ρ h) : OS (mSkip ρ h) N T B C E := w_nx q
theorem w_brk (q : B ρ h) : OS (mBreak ρ h) N T B C E := w_bk q
theorem w_cont (q : C ρ h) : OS (mCont ρ h) N T B C E := w_ct q
theorem w_retN (q : T .non h) : OS (mRetN ρ h) N T B C E := w_rt q
theorem w_drop (q : Sat (e ρ h) (fun _ h' => N ρ h') fun x fs h => E x fs ρ h) : OS (mDrop e ρ h) N T B C E := Sat.ot (q.monoE (fun _ _ z => w_nx z) fun _ _ _ z => z)
theorem w_ret (q : Sat (e ρ h) T fun x fs h => E x fs ρ h) : OS (mRet e ρ h) N T B C E := Sat.ot (q.monoE (fun _ _ z => w_rt z) fun _ _ _ z => z)
theorem w_if (q : Sat (ta ρ h) (fun x h1 => Br (x = true) (OS (sa ρ h1) N T B C E) (OS (sb ρ h1) N T B C E)) fun x fs h => E x fs ρ h) : OS (mIf ta sa sb ρ h) N T B C E := Sat.ot (q.monoE (fun _ _ z => by
  split
  · rename_i hp; exact z.1 hp
  · rename_i hp; exact z.2 hp) fun _ _ _ z => z)
theorem w_asg {i : Nat} (q : Sat (e ρ h) (fun d h' => N (ρ.set i (some d)) h') fun x fs h => E x fs ρ h) : OS (mAsg i e ρ h) N T B C E := Sat.ot (q.monoE (fun _ _ z => w_nx z) fun _ _ _ z => z)
theorem w_asgT {m : MG} (q : Sat (e ρ h) (fun d h' => ∃ ρ', m d ρ = some ρ' ∧ N ρ' h') fun x fs h => E x fs ρ h) : OS (mAsgT m e ρ h) N T B C E := Sat.ot (q.monoE (fun _ _ z => by
  obtain ⟨ρ', e1, z⟩ := z
  rw [e1]
  exact w_nx z) fun _ _ _ z => z)
theorem w_setIx (q : Sat (e ρ h) (fun d h1 => Sat (a ρ h1) (fun x h2 => Sat (b ρ h2) (fun y h3 => Sat (dSet x y d h3) (fun _ h4 => N ρ h4) fun x fs h => E x fs ρ h) fun x fs h => E x fs ρ h) fun x fs h => E x fs ρ h) fun x fs h => E x fs ρ h) : OS (mSetIx a b e ρ h) N T B C E :=
  Sat.ot (q.monoE (fun _ _ z => Sat.ot (z.monoE (fun _ _ z => Sat.ot (z.monoE (fun _ _ z => Sat.ot (z.monoE (fun _ _ z => w_nx z) fun _ _ _ z => z)) fun _ _ _ z => z)) fun _ _ _ z => z)) fun _ _ _ z => z)
theorem w_for {it : MI} {tg : MG} (q : Sat (it ρ h) (fun x h1 => OS (forGo x.2 tg sa x.1 ρ h1) N T B C E) fun x fs h => E x fs ρ h) : OS (mFor it tg sa ρ h) N T B C E := Sat.ot q
theorem w_fun {n M : Nat} {ds : List D} {Q : D → MH → Prop} {E : XE} (q : OS (sa (startD n M ds) h) (fun _ h' => Q .non h') Q noS noS fun x fs _ h => E x fs h) (hl : ds.length = n := by rfl) : Sat (mFun n M sa ds h) Q E := by
  unfold mFun
  rw [if_pos hl]
  cases e : sa (startD n M ds) h with
  | nx ρ' h' => rw [e, OS_nx] at q; exact w_ok q
  | rt d h' => rw [e, OS_rt] at q; exact w_ok q
  | bk ρ' h' => rw [e, OS_bk] at q; exact q.elim
  | ct ρ' h' => rw [e, OS_ct] at q; exact q.elim
  | exc x fs ρ' h' => rw [e, OS_exc] at q; simp only [Sat_exc]; exact q
  | bad => rw [e, OS_bad] at q; exact q.elim
/-- a loop: what holds between two turns -/
theorem w_loop {gd : MH → Bool} {tg : MG} {body : MS} (I : Nat → SP) : ∀ {items : List D} {k : Nat} {ρ : Slots} {h : MH}, I k ρ h →
    (∀ i ρ h, I i ρ h → gd h = true) →
    (∀ i d ρ h, items[i]? = some d → I (k + i) ρ h → ∃ ρ1, tg d ρ = some ρ1 ∧ OS (body ρ1 h) (I (k + i + 1)) T N (I (k + i + 1)) E) →
    (∀ ρ h, I (k + items.length) ρ h → N ρ h) → OS (forGo gd tg body items ρ h) N T B C E
  | [], k, ρ, h, h0, hg, hs, hn => by
    rw [forGo, if_pos (hg k ρ h h0)]
    exact w_nx (hn _ _ h0)
  | d :: ds, k, ρ, h, h0, hg, hs, hn => by
    obtain ⟨ρ1, e1, q⟩ := hs 0 d ρ h rfl h0
    have go : ∀ ρ' h', I (k + 0 + 1) ρ' h' → OS (forGo gd tg body ds ρ' h') N T B C E := fun ρ' h' i => w_loop I (k := k + 1) (ρ := ρ') (h := h') i hg (fun i d' ρ h hd hi => by
      have e3 : k + (i + 1) = k + 1 + i := by omega
      have := hs (i + 1) d' ρ h (by simpa using hd) (by rw [e3]; exact hi)
      rw [e3] at this
      exact this) (fun ρ h hi => hn ρ h (by rw [List.length_cons]; have e3 : k + (ds.length + 1) = k + 1 + ds.length := by omega
                                            rw [e3]; exact hi))
    rw [forGo, if_pos (hg k ρ h h0), e1]
    cases e2 : body ρ1 h with
    | nx ρ' h' => rw [e2, OS_nx] at q; simp only [e2]; exact go ρ' h' q
    | ct ρ' h' => rw [e2, OS_ct] at q; simp only [e2]; exact go ρ' h' q
    | bk ρ' h' => rw [e2, OS_bk] at q; simp only [e2]; exact w_nx q
    | rt d h' => rw [e2, OS_rt] at q; simp only [e2]; exact w_rt q
    | exc x fs ρ' h' => rw [e2, OS_exc] at q; simp only [e2, OS_exc]; exact q
    | bad => rw [e2, OS_bad] at q; exact q.elim
theorem w_loop0 {gd : MH → Bool} {tg : MG} {body : MS} (I : Nat → SP) {items : List D} {ρ : Slots} {h : MH} (h0 : I 0 ρ h)
    (hg : ∀ i ρ h, I i ρ h → gd h = true)
    (hs : ∀ i d ρ h, items[i]? = some d → I i ρ h → ∃ ρ1, tg d ρ = some ρ1 ∧ OS (body ρ1 h) (I (i + 1)) T N (I (i + 1)) E)
    (hn : ∀ ρ h, I items.length ρ h → N ρ h) : OS (forGo gd tg body items ρ h) N T B C E :=
  w_loop I (k := 0) h0 hg (fun i d ρ h hd hi => by rw [Nat.zero_add] at hi ⊢; exact hs i d ρ h hd hi) (fun ρ h hi => hn ρ h (by rw [Nat.zero_add] at hi; exact hi))
/-- a comprehension: what holds between two turns, of the list so far -/
theorem w_comp {gd : MH → Bool} {tg : MG} {tt : MT} {te : ME} {c : Nat} {ρ : Slots} {Q : D → MH → Prop} {E : XE} (I : Nat → List D → MH → Prop) : ∀ {items : List D} {k : Nat} {acc : List D} {h : MH}, I k acc h → h[c]? = some (.lst acc) → acc.length + items.length ≤ 1000000 →
    (∀ i acc h, I i acc h → gd h = true) →
    (∀ i d acc h, items[i]? = some d → I (k + i) acc h → h[c]? = some (.lst acc) → ∃ ρ1, tg d ρ = some ρ1 ∧ ∃ b h1, tt ρ1 h = .ok b h1 ∧ (b = false → h1[c]? = some (.lst acc) ∧ I (k + i + 1) acc h1) ∧ (b = true → Sat (te ρ1 h1) (fun y h2 => h2[c]? = some (.lst acc) ∧ I (k + i + 1) (acc ++ [y]) (h2.set c (.lst (acc ++ [y])))) noX)) →
    (∀ acc h, I (k + items.length) acc h → h[c]? = some (.lst acc) → Q (.ref c) h) → Sat (lcGo gd tg tt te c ρ items h) Q E
  | [], k, acc, h, h0, hc, hl, hg, hs, hn => by
    rw [lcGo, if_pos (hg k acc h h0)]
    exact w_ok (hn _ _ h0 hc)
  | d :: ds, k, acc, h, h0, hc, hl, hg, hs, hn => by
    obtain ⟨ρ1, e1, b, h1, e2, q1, q2⟩ := hs 0 d acc h rfl h0 hc
    rw [List.length_cons] at hl
    have go : ∀ acc' h', acc'.length ≤ acc.length + 1 → I (k + 0 + 1) acc' h' → h'[c]? = some (.lst acc') → Sat (lcGo gd tg tt te c ρ ds h') Q E := fun acc' h' l i hc' => w_comp I (k := k + 1) (acc := acc') (h := h') i hc' (by omega) hg (fun i d' acc h hd hi hc => by
      have e3 : k + (i + 1) = k + 1 + i := by omega
      have := hs (i + 1) d' acc h (by simpa using hd) (by rw [e3]; exact hi) hc
      rw [e3] at this
      exact this) (fun acc h hi => hn acc h (by rw [List.length_cons]; have e3 : k + (ds.length + 1) = k + 1 + ds.length := by omega
                                                rw [e3]; exact hi))
    rw [lcGo, if_pos (hg k acc h h0), e1]
    cases b with
    | false =>
      simp only [e2]
      obtain ⟨q3, q4⟩ := q1 rfl
      exact go _ _ (by omega) q4 q3
    | true =>
      simp only [e2]
      obtain ⟨y, h2, e3, q3, q4⟩ := (q2 rfl).get
      simp only [e3, q3]
      rw [if_pos (by omega)]
      refine go _ _ (by simp) q4 ?_
      have : c < h2.length := (List.getElem?_eq_some_iff.mp q3).1
      simp [this]
/-- a comprehension whose parts change nothing -/
theorem w_compP {gd : MH → Bool} {tg : MG} {te : ME} {ρ : Slots} {Q : D → MH → Prop} {E : XE} {h0 : MH} (P : Nat → D → Prop) {items : List D} (hl : items.length ≤ 1000000)
    (hg : ∀ t, gd (h0 ++ t) = true)
    (hs : ∀ i d t, items[i]? = some d → ∃ ρ1, tg d ρ = some ρ1 ∧ Sat (te ρ1 (h0 ++ t)) (fun y h2 => h2 = h0 ++ t ∧ P i y) noX)
    (hn : ∀ ys : List D, ys.length = items.length → (∀ i y, ys[i]? = some y → P i y) → Q (.ref h0.length) (h0 ++ [.lst ys])) : Sat (lcGo gd tg mYes te h0.length ρ items (h0 ++ [.lst []])) Q E := by
  refine w_comp (fun k acc h => acc.length = k ∧ h = h0 ++ [.lst acc] ∧ ∀ i y, acc[i]? = some y → P i y) ⟨rfl, rfl, fun i y e => by simp at e⟩ (by simp) (by simpa using hl) (fun i acc h hi => by rw [hi.2.1]; exact hg _) ?_ ?_
  · rintro i d acc h hd ⟨ha, rfl, hp⟩ hc
    obtain ⟨ρ1, e1, s⟩ := hs i d [.lst acc] hd
    refine ⟨ρ1, e1, true, _, rfl, (fun z => Bool.noConfusion z), fun _ => s.mono ?_⟩
    rintro y h2 ⟨rfl, hy⟩
    refine ⟨hc, by simp [ha], by simp, fun j z hz => ?_⟩
    rcases Nat.lt_or_ge j acc.length with q | q
    · rw [List.getElem?_append_left q] at hz
      exact hp j z hz
    · rw [List.getElem?_append_right q] at hz
      have : j - acc.length = 0 := by
        have := (List.getElem?_eq_some_iff.mp hz).1
        simp at this; omega
      rw [this] at hz
      simp at hz
      subst hz
      have : j = i := by simp at ha; omega
      subst this
      exact hy
  · rintro acc h ⟨ha, rfl, hp⟩ hc
    exact hn acc (by simpa using ha) hp
end
/-! leaves -/
section
variable {Q : D → MH → Prop} {E : XE} {h : MH} {i j : Int} {x y : Str} {l m : List D}
theorem w_mod (c : 0 < j) (q : Q (.int (i % j)) h) : Sat (dMod (.int i) (.int j) h) Q E := w_eq (by rw [dMod_int, if_pos c]) q
theorem w_fdiv (c : 0 < j ∧ j < 18446744073709551616) (q : Q (.int (i / j)) h) : Sat (dFdiv (.int i) (.int j) h) Q E := w_eq (dFdiv_small i j h c.1 c.2) q
theorem w_mulS (c : (-18446744073709551616 < i ∧ i < 18446744073709551616) ∧ -18446744073709551616 < j ∧ j < 18446744073709551616) (q : Q (.int (i * j)) h) : Sat (dMul (.int i) (.int j) h) Q E := w_eq (dMul_s i j h c.1.1 c.1.2 c.2.1 c.2.2) q
theorem w_mulB {a b : Nat} (ha : Builtin.Int.intBits i ≤ a) (hb : Builtin.Int.intBits j ≤ b) (hab : a + b ≤ 134217728) (q : Q (.int (i * j)) h) : Sat (dMul (.int i) (.int j) h) Q E := w_eq (dMul_bits i j h ha hb hab) q
theorem w_addS (c : x.length + y.length ≤ 1000000) (q : Q (.str (x ++ y)) h) : Sat (dAdd (.str x) (.str y) h) Q E := w_eq (by rw [dAdd_str, if_pos c]) q
theorem w_addT (c : l.length + m.length ≤ 1000000) (q : Q (.tup (l ++ m)) h) : Sat (dAdd (.tup l) (.tup m) h) Q E := w_eq (by rw [dAdd_tup, if_pos c]) q
theorem w_addL {i j : Nat} (hi : h[i]? = some (.lst l)) (hj : h[j]? = some (.lst m)) (c : l.length + m.length ≤ 1000000) (q : Q (.ref h.length) (h ++ [.lst (l ++ m)])) : Sat (dAdd (.ref i) (.ref j) h) Q E := w_eq (by simp only [dAdd, hi, hj, if_pos c]) q
theorem w_pow {n : Nat} (c : n ≤ 1000000 ∧ i.natAbs < 2 ^ 64) (q : Q (.int (i ^ n)) h) : Sat (dPow (.int i) (.int (n : Int)) h) Q E := w_eq (by rw [dPow_int, if_pos (by omega), Int.toNat_natCast]) q
theorem w_lenS (c : x.length ≤ 1000000) (q : Q (.int x.length) h) : Sat (dLen [.str x] h) Q E := w_eq (by rw [dLen_str, if_pos c]) q
theorem w_lenL {i : Nat} (c : getL h i = some l) (q : Q (.int l.length) h) : Sat (dLen [.ref i] h) Q E := w_eq (dLen_ref c) q
theorem w_slS {lo hi : Option Int} (c : x.length ≤ 1000000) (q : Q (.str (cutS x lo hi)) h) : Sat (dSl (.str x) lo hi h) Q E := w_eq (by rw [dSl_str, if_pos c]) q
theorem w_slL {i : Nat} {lo hi : Option Int} (c : getL h i = some l) (q : Q (.ref h.length) (h ++ [.lst (cutD l lo hi)])) : Sat (dSl (.ref i) lo hi h) Q E := w_eq (dSl_ref c lo hi) q
theorem w_ixL {k : Nat} {d : D} (c : getL h k = some l) (e : atI l i = some d) (q : Q d h) : Sat (dIx (.ref k) (.int i) h) Q E := w_eq (dIx_ref c e) q
theorem w_ixT {d : D} (e : atI l i = some d) (q : Q d h) : Sat (dIx (.tup l) (.int i) h) Q E := w_eq (dIx_tup h e) q
theorem w_ixS {c : Nat} (hz : x.length ≤ 1000000) (e : atI x.cps.toList i = some c) (q : Q (.str ⟨#[c]⟩) h) : Sat (dIx (.str x) (.int i) h) Q E := w_eq (dIx_str h hz e) q
theorem getL_of {i : Nat} (e : h[i]? = some (.lst l)) : getL h i = some l := by unfold getL; rw [e]
theorem w_app {i : Nat} {d : D} (e : h[i]? = some (.lst l)) (c : l.length < 1000000) (q : Q .non (h.set i (.lst (l ++ [d])))) : Sat (dAppend (.ref i) [d] h) Q E := w_eq (by simp only [dAppend, e, if_pos c]) q
theorem w_pop {i : Nat} {d : D} (e : h[i]? = some (.lst (l ++ [d]))) (q : Q d (h.set i (.lst l))) : Sat (dPop (.ref i) [] h) Q E := w_eq (by simp [dPop, e]) q
theorem w_tupL {i : Nat} (c : getL h i = some l) (q : Q (.tup l) h) : Sat (dTuple [.ref i] h) Q E := w_eq (by simp [dTuple, seqOf, c]) q
theorem w_eqK {a b : D} {k : Bool} (e : eqD a b h = some k) (q : Q (.bl k) h) : Sat (dEq a b h) Q E := w_eq (dEq_of e) q
theorem w_neK {a b : D} {k : Bool} (e : eqD a b h = some k) (q : Q (.bl (!k)) h) : Sat (dNe a b h) Q E := w_eq (dNe_of e) q
theorem w_set {QU : Unit → MH → Prop} {i : Nat} {k : Int} {n : Nat} {d : D} (e : h[i]? = some (.lst l)) (c : ixN l.length k = some n) (q : QU () (h.set i (.lst (l.set n d)))) : Sat (dSet (.ref i) (.int k) d h) QU E := w_eq (by simp only [dSet, e, c]) q
theorem allBl_map (bs : List Bool) : allBl (bs.map D.bl) = some bs := by
  induction bs with
  | nil => rfl
  | cons b bs ih => simp [allBl, ih]
theorem w_all {i : Nat} {bs : List Bool} (e : getL h i = some (bs.map .bl)) (q : Q (.bl (bs.all id)) h) : Sat (dAll [.ref i] h) Q E := w_eq (by simp [dAll, e, allBl_map]) q
theorem w_any {i : Nat} {bs : List Bool} (e : getL h i = some (bs.map .bl)) (q : Q (.bl (bs.any id)) h) : Sat (dAny [.ref i] h) Q E := w_eq (by simp [dAny, e, allBl_map]) q
theorem allStr_map (bs : List Str) : allStr (bs.map D.str) = some bs := by
  induction bs with
  | nil => rfl
  | cons b bs ih => simp [allStr, ih]
theorem w_join {i : Nat} {ys : List Str} (e : getL h i = some (ys.map .str)) (c : (ys.map (·.length)).sum + ys.length * x.length ≤ 1000000) (q : Q (.str (Txt.join x ys)) h) : Sat (dJoin (.str x) [.ref i] h) Q E := w_eq (by simp only [dJoin, seqOf, e, Option.bind_some, allStr_map, if_pos c]) q
end
end Mi

/-! Lists of one's own: h goes on from h0, and the listed cells behind it are known. -/
namespace Mi
open PySem L2
abbrev LL := List (Nat × List D)
structure Own (h0 h : MH) (L : LL) : Prop where
  pre : h0 <+: h
  cell : ∀ p ∈ L, h0.length ≤ p.1 ∧ h[p.1]? = some (.lst p.2)
  nd : (L.map (·.1)).Nodup
section
variable {h0 h h' h1 : MH} {L M : LL} {i : Nat} {l l' : List D}
theorem Own.nil (h : MH) : Own h h [] := ⟨List.prefix_rfl, fun p hp => by simp at hp, List.nodup_nil⟩
theorem pre_get (p : h <+: h') {o : MO} (e : h[i]? = some o) : h'[i]? = some o := by
  obtain ⟨t, rfl⟩ := p
  rw [List.getElem?_append_left (List.getElem?_eq_some_iff.mp e).1]
  exact e
theorem pre_getL (p : h <+: h') (e : getL h i = some l) : getL h' i = some l := by
  obtain ⟨t, rfl⟩ := p
  have hi : i < h.length := by
    cases q : h[i]? with
    | none => simp [getL, q] at e
    | some o => exact (List.getElem?_eq_some_iff.mp q).1
  unfold getL
  rw [List.getElem?_append_left hi]
  exact e
theorem Own.getL (o : Own h0 h L) (e : getL h0 i = some l) : getL h i = some l := pre_getL o.pre e
theorem Own.ext (o : Own h0 h L) (p : h <+: h') : Own h0 h' L := ⟨o.pre.trans p, fun q hq => ⟨(o.cell q hq).1, pre_get p (o.cell q hq).2⟩, o.nd⟩
theorem Own.lt (o : Own h0 h L) {p : Nat × List D} (hp : p ∈ L) : p.1 < h.length := (List.getElem?_eq_some_iff.mp (o.cell p hp).2).1
theorem Own.add (o : Own h0 h L) (hi : h0.length ≤ i) (e : h[i]? = some (.lst l)) (n : ∀ p ∈ L, p.1 ≠ i) : Own h0 h ((i, l) :: L) :=
  ⟨o.pre, fun q hq => by
    rcases List.mem_cons.mp hq with rfl | hq
    · exact ⟨hi, e⟩
    · exact o.cell q hq, List.nodup_cons.mpr ⟨fun hm => by
      obtain ⟨p, hp, rfl⟩ := List.mem_map.mp hm
      exact n p hp rfl, o.nd⟩⟩
theorem Own.alloc (o : Own h0 h L) (xs : List D) : Own h0 (h ++ [.lst xs]) ((h.length, xs) :: L) :=
  (o.ext (List.prefix_append _ _)).add (o.pre.length_le) (by simp) fun p hp => Nat.ne_of_lt (o.lt hp)
theorem Own.at (o : Own h0 h L) (n : Nat) (e : L[n]? = some (i, l)) : h[i]? = some (.lst l) := (o.cell _ (List.mem_of_getElem? e)).2
theorem Own.atL (o : Own h0 h L) (n : Nat) (e : L[n]? = some (i, l)) : Mi.getL h i = some l := getL_of (o.at n e)
theorem Own.isL (o : Own h0 h L) (n : Nat) (e : L[n]? = some (i, l)) : isListD (.ref i) h = true := by rw [isListD_ref, o.atL n e]; rfl
theorem Own.setAt (o : Own h0 h L) (n : Nat) (e : L[n]? = some (i, l)) (l' : List D) : Own h0 (h.set i (.lst l')) (L.set n (i, l')) := by
  have hn : n < L.length := (List.getElem?_eq_some_iff.mp e).1
  have en : L[n] = (i, l) := (List.getElem?_eq_some_iff.mp e).2
  have hi : i < h.length := o.lt (List.mem_of_getElem? e)
  have h0i : h0.length ≤ i := (o.cell _ (List.mem_of_getElem? e)).1
  have em : (L.set n (i, l')).map (·.1) = L.map (·.1) := by
    rw [List.map_set]
    refine List.ext_getElem (by simp) fun k h1 h2 => ?_
    rw [List.getElem_set]
    split
    · rename_i q
      subst q
      rw [List.getElem_map, en]
    · rfl
  refine ⟨?_, fun q hq => ?_, by rw [em]; exact o.nd⟩
  · obtain ⟨t, rfl⟩ := o.pre
    rw [List.set_append_right _ _ h0i]
    exact List.prefix_append _ _
  · obtain ⟨k, hk, e2⟩ := List.mem_iff_getElem.mp hq
    rw [List.getElem_set] at e2
    split at e2
    · subst e2
      exact ⟨h0i, by simp [hi]⟩
    · rename_i hne
      have hk' : k < L.length := by simpa using hk
      have hm : q ∈ L := e2 ▸ List.getElem_mem hk'
      refine ⟨(o.cell q hm).1, ?_⟩
      rw [List.getElem?_set_ne]
      · exact (o.cell q hm).2
      · intro z
        have h1 : (L.map (·.1))[n]'(by simpa using hn) = (L.map (·.1))[k]'(by simpa using hk') := by
          rw [List.getElem_map, List.getElem_map, en, e2]
          exact z
        exact hne ((List.getElem_inj o.nd).mp h1)
theorem Own.trans (o : Own h0 h L) (o' : Own h h' M) : Own h0 h' (M ++ L) := by
  have o2 := o.ext o'.pre
  refine ⟨o2.pre, fun q hq => ?_, ?_⟩
  · rcases List.mem_append.mp hq with hq | hq
    · exact ⟨Nat.le_trans o.pre.length_le (o'.cell q hq).1, (o'.cell q hq).2⟩
    · exact o2.cell q hq
  · rw [List.map_append, List.nodup_append]
    refine ⟨o'.nd, o.nd, fun a ha b hb => ?_⟩
    obtain ⟨p, hp, rfl⟩ := List.mem_map.mp ha
    obtain ⟨q, hq, rfl⟩ := List.mem_map.mp hb
    have h1 := (o'.cell p hp).1
    have h2 := o.lt hq
    omega
theorem Own.sub (o : Own h0 h L) (s : M.Sublist L) : Own h0 h M := ⟨o.pre, fun p hp => o.cell p (s.subset hp), (s.map _).nodup o.nd⟩
theorem Own.tail {p : Nat × List D} (o : Own h0 h (p :: L)) : Own h0 h L := o.sub (List.sublist_cons_self _ _)
theorem Own.none (o : Own h0 h L) : Own h0 h [] := o.sub (List.nil_sublist _)
theorem Own.head {p : Nat × List D} (o : Own h0 h (p :: L)) : Own h0 h [p] := o.sub (List.Sublist.cons_cons _ (List.nil_sublist _))
theorem Own.ne (o : Own h0 h L) {a b : Nat} {p q : Nat × List D} (ha : L[a]? = some p) (hb : L[b]? = some q) (n : a ≠ b) : p.1 ≠ q.1 := by
  intro z
  have h1 := (List.getElem?_eq_some_iff.mp ha)
  have h2 := (List.getElem?_eq_some_iff.mp hb)
  refine n ((List.getElem_inj o.nd (i := a) (j := b) (h₀ := by simpa using h1.1) (h₁ := by simpa using h2.1)).mp ?_)
  rw [List.getElem_map, List.getElem_map, h1.2, h2.2]
  exact z
/-! rules -/
variable {Q : D → MH → Prop} {E : XE}
theorem o_new {xs : List D} (o : Own h0 h L) (l : xs.length ≤ 1000000) (q : ∀ i h', Own h0 h' ((i, xs) :: L) → Q (.ref i) h') : Sat (toLst xs h) Q E := w_toLst l (q _ _ (o.alloc xs))
theorem o_app {d : D} (o : Own h0 h L) (n : Nat) (e : L[n]? = some (i, l)) (c : l.length < 1000000) (q : ∀ h', Own h0 h' (L.set n (i, l ++ [d])) → Q .non h') : Sat (dAppend (.ref i) [d] h) Q E := w_app (o.at n e) c (q _ (o.setAt n e _))
theorem o_rev (o : Own h0 h L) (hl : Mi.getL h i = some l) (q : ∀ i h', Own h0 h' ((i, l.reverse) :: L) → Q (.ref i) h') : Sat (dRevL (.ref i) h) Q E := w_dRevL hl (q _ _ (o.alloc _))
theorem o_sl {lo hi : Option Int} (o : Own h0 h L) (hl : Mi.getL h i = some l) (q : ∀ i h', Own h0 h' ((i, cutD l lo hi) :: L) → Q (.ref i) h') : Sat (dSl (.ref i) lo hi h) Q E := w_slL hl (q _ _ (o.alloc _))
theorem o_add {j : Nat} {m : List D} (o : Own h0 h L) (hi : h[i]? = some (.lst l)) (hj : h[j]? = some (.lst m)) (c : l.length + m.length ≤ 1000000) (q : ∀ i h', Own h0 h' ((i, l ++ m) :: L) → Q (.ref i) h') : Sat (dAdd (.ref i) (.ref j) h) Q E := w_addL hi hj c (q _ _ (o.alloc _))
theorem o_pop {d : D} (o : Own h0 h L) (n : Nat) (e : L[n]? = some (i, l ++ [d])) (q : ∀ h', Own h0 h' (L.set n (i, l)) → Q d h') : Sat (dPop (.ref i) [] h) Q E := w_pop (o.at n e) (q _ (o.setAt n e _))
theorem o_set {QU : Unit → MH → Prop} {k : Int} {m : Nat} {d : D} (o : Own h0 h L) (n : Nat) (e : L[n]? = some (i, l)) (c : ixN l.length k = some m) (q : ∀ h', Own h0 h' (L.set n (i, l.set m d)) → QU () h') : Sat (dSet (.ref i) (.int k) d h) QU E := w_set (o.at n e) c (q _ (o.setAt n e _))
/-- a comprehension whose parts change nothing -/
theorem o_comp {gd : MH → Bool} {tg : MG} {te : ME} {ρ : Slots} (P : Nat → D → Prop) {items : List D} (o : Own h0 h L) (hl : items.length ≤ 1000000)
    (hg : ∀ h', h <+: h' → gd h' = true)
    (hs : ∀ i d h', items[i]? = some d → h <+: h' → ∃ ρ1, tg d ρ = some ρ1 ∧ Sat (te ρ1 h') (fun y h2 => h2 = h' ∧ P i y) noX)
    (hn : ∀ ys : List D, ys.length = items.length → (∀ i y, ys[i]? = some y → P i y) → ∀ i h', Own h0 h' ((i, ys) :: L) → Q (.ref i) h') : Sat (lcGo gd tg mYes te h.length ρ items (h ++ [.lst []])) Q E :=
  w_compP P hl (fun t => hg _ (List.prefix_append _ _)) (fun i d t hd => hs i d _ hd (List.prefix_append _ _)) fun ys hy hp => hn ys hy hp _ _ (o.alloc ys)
/-- a comprehension whose parts change lists of one's own -/
theorem o_compS {σ : Type} {gd : MH → Bool} {tg : MG} {te : ME} {ρ : Slots} (Lf : σ → LL) (I : Nat → List D → σ → Prop) {s0 : σ} {items : List D} (o : Own h0 h (Lf s0)) (i0 : I 0 [] s0) (hl : items.length ≤ 1000000)
    (hg : ∀ c acc s h', Own h0 h' ((c, acc) :: Lf s) → gd h' = true)
    (hs : ∀ i d acc s c h', items[i]? = some d → acc.length = i → I i acc s → Own h0 h' ((c, acc) :: Lf s) → ∃ ρ1, tg d ρ = some ρ1 ∧ Sat (te ρ1 h') (fun y h2 => ∃ s', Own h0 h2 ((c, acc) :: Lf s') ∧ I (i + 1) (acc ++ [y]) s') noX)
    (hn : ∀ acc s c h', acc.length = items.length → I items.length acc s → Own h0 h' ((c, acc) :: Lf s) → Q (.ref c) h') : Sat (lcGo gd tg mYes te h.length ρ items (h ++ [.lst []])) Q E := by
  refine w_comp (fun k acc h' => acc.length = k ∧ ∃ s, I k acc s ∧ Own h0 h' ((h.length, acc) :: Lf s)) (k := 0) ⟨rfl, s0, i0, o.alloc []⟩ (by simp) (by simpa using hl) (fun i acc h' hi => by
    obtain ⟨_, s, _, hi⟩ := hi
    exact hg _ _ _ _ hi) ?_ ?_
  · rintro i d acc h' hd ⟨ha, s, hi, ho⟩ hc
    rw [Nat.zero_add] at ha hi ⊢
    obtain ⟨ρ1, e1, q⟩ := hs i d acc s _ h' hd ha hi ho
    refine ⟨ρ1, e1, true, _, rfl, (fun z => Bool.noConfusion z), fun _ => q.mono ?_⟩
    rintro y h2 ⟨s', o2, i2⟩
    exact ⟨o2.at 0 rfl, by simp [ha], s', i2, o2.setAt 0 rfl _⟩
  · rintro acc h' ⟨ha, s, hi, ho⟩ hc
    rw [Nat.zero_add] at ha hi
    exact hn acc s _ h' ha hi ho
end
end Mi

/-! Exceptions: raised with a field or none, caught, kept in a name, asked for their class and field. -/
namespace Mi
open PySem L2 PySem.Spec PyProof.Rows
section
variable {X : Cx} {pins : List (Addr × Obj)} {σ : L2.St} {H : Hp} {s : Shared}
/-- the object of an exception gets tracked -/
theorem inv_track {p C : Addr} {d : Option Addr} {ob : Obj} {vs : Array Value} (I : Inv X pins σ H s) (hp : s.heap.get? p = some ob) (hz : Zc (.ref C) d ob) (hd : ob.data = .fields vs) (np : H p = none)
    (n0 : X.s_0.heap.get? p = none) (nL : p ≠ X.env.locals) (nC : ∀ x c, X.env.cells.lookup x = some c → c ≠ p) (nP : ∀ q ∈ X.pn ++ pins, q.1 ≠ p) : Inv X pins σ (upd H p (XOk C d p)) s := by
  have ne0 : ∀ b o, X.s_0.heap.get? b = some o → b ≠ p := fun b o e z => by rw [z, n0] at e; cases e
  refine ⟨I.ok, I.os, I.bare, ⟨I.base.keep, I.base.slot, ?_, I.base.there, ?_, ?_, ?_⟩, I.loc, I.cell, ?_, ?_, ?_, ?_, I.len⟩
  · intro b o e n x
    rw [upd_ne (ne0 b o e)]
    exact I.base.free b o e n x
  · intro b xs e
    have q := I.base.tups b xs e
    rw [upd_ne (ne_of_none q np)]
    exact q
  · intro b o u e
    have q := I.base.frzs b o u e
    rw [upd_ne (ne_of_none q np)]
    exact q
  · intro b ps e
    obtain ⟨m, q⟩ := I.base.tbls b ps e
    exact ⟨m, by rw [upd_ne (ne_of_none q np)]; exact q⟩
  · rw [upd_ne (Ne.symm nL)]
    exact I.free
  · intro x c e
    rw [upd_ne (nC x c e)]
    exact I.freeC x c e
  · intro q hq
    obtain ⟨h1, h2, h3⟩ := I.pin q hq
    exact ⟨h1, by rw [upd_ne (nP q hq)]; exact h2, h3⟩
  · intro b u e
    by_cases hb : b = p
    · subst hb
      rw [upd_same] at e
      cases e
      exact ⟨⟨ob, vs, hp, hz, hd⟩, ⟨ob, hp⟩, fun h1 h2 ⟨o, v, e1, e2⟩ k => ⟨o, v, k o e1, e2⟩⟩
    · rw [upd_ne hb] at e
      refine (I.hok b u e).stay (fun _ _ _ q => q) ?_ ?_
      · intro c q
        rw [upd_ne (ne_of_none q np)]
        exact q
      · intro c xs q
        rw [upd_ne (ne_of_none q np)]
        exact q
end
/-- what a clause wishes that keeps the exception: slot i is the clause's name, slot j the one that keeps it -/
def wKeep (K : PySem.W.Frag) (c : Value) (i j : Nat) (Wo : WX) (D : Ends) : WX := fun cls d σ H =>
  ∃ b C, cls = .ref C ∧ PySem.W.exmOne K cls c = some b ∧ (b = true → ∀ p, H p = none → D.nx (((σ.set i (some (.ref p))).set j (some (.ref p))).set i none) (upd H p (XOk C d p))) ∧ (b = false → Wo cls d σ H)
section
variable {X : Cx} {x n r : Str} {c : Value} {i j : Nat} {body : List Stmt} {qn q0 q1 q2 q3 q4 : Pos} {tb : WX → TS} {Wo : WX}
theorem ps_try_keep (hst : X.stack = X.env :: X.outer) (hfm : X.env.frame = some X.env.locals) (hND : X.N.Nodup) (hi : X.N[i]? = some n) (hj : X.N[j]? = some r) (hij : i ≠ j) (hln : X.env.kindOf n = some .local) (hlr : X.env.kindOf r = some .local) (hcn : Names X x c) (tk : Takes X Wo) (hex : X.ex = [])
    (hdn : (n == ("__debug__" : Str)) = false) (hcd : (n == ("__classdict__" : Str)) = false)
    (hsw : ∀ (p : Addr) (pn : List (Addr × Obj)), swapsWith (.Name n q2) (some (.Name r q1)) q3.line X.env = pure false)
    (hbd : ∀ (W : WX) (pn : List (Addr × Obj)) (xe : Value → Shared → Prop), Takes (X.tr pn xe) W → PassesOwn (model X.prog X.w) X.A X.env xe → PSs (X.tr pn xe) body (tb W)) :
    PS X (.Try body [.ExceptHandler (some (.Name x qn)) (some n) [.Assign [.Name r q1] (.Name n q2) q3] q0] [] [] q4) (fun D σ H => tb (wKeep X.K c i j Wo D) D σ H) := by
  refine ⟨fun pins s σ H D I q => ?_⟩
  have kk := I.ok
  have hfr : X.A.frames = some (X.env :: X.outer) := by rw [kk.frames, hst]
  refine wpAny_Try_except ?_
  let cl : List ExceptHandler := [.ExceptHandler (some (.Name x qn)) (some n) [.Assign [.Name r q1] (.Name n q2) q3] q0]
  refine wpAny_mono ((hbd (wKeep X.K c i j Wo D) (X.pn ++ pins) (fun ev t1 => wpAny (model X.prog X.w) X.A (noteFrame ev X.env) (fun _ t2 =>
    wpAny (model X.prog X.w) X.A (setFlight ev none) (fun _ t3 => wpAny (model X.prog X.w) X.A (handleBy ev X.env cl) (L2.SP X pins D) X.xe t3) X.xe t2) X.xe t1)
    (fun uu s' xx => ?_) PassesOwn.looking).run [] s σ H D (I.toTry _) q) (fun fl s1 hsp => ?_) (fun _ _ he => he)
  · obtain ⟨p, B, sI, pins', σ', H', cls, d, rfl, J', nb, up, sky, np, os, ag, b, C, rfl, hb1, hyes, hno⟩ := xx
    have J : Inv X pins σ' H' sI := J'.ofTry kk
    have sky2 : Sky B (X.env :: X.outer) p (Zc (.ref C) d) X.env.locals s'.heap := by rw [← hst]; exact sky
    show wpAny (model X.prog X.w) X.A (noteFrame (.ref p) X.env) _ _ _
    refine Sky.land Zc.steady hfr hfm sky2 fun h3 f3 up3 => ?_
    have J3 : Inv X pins σ' H' { s' with heap := h3 } := J.landed nb f3.1 (up.trans up3) os ag
    obtain ⟨o3, v3, ho3, hz3, hd3⟩ := f3.there
    have off : p ∉ frs (X.env :: X.outer) := fun hm => by
      obtain ⟨_, o', e', hnf⟩ := f3.2.2.1.mem hm
      rw [ho3] at e'
      cases e'
      exact hnf _ hd3
    have nL : p ≠ X.env.locals := fun z => off (List.mem_filterMap.mpr ⟨X.env, List.mem_cons_self, by rw [hfm, z]⟩)
    have nF : p ∉ X.fs := fun hm => by
      obtain ⟨e, he, w⟩ := List.mem_filterMap.mp hm
      exact off (List.mem_filterMap.mpr ⟨e, List.mem_cons_of_mem _ he, w⟩)
    have nI : ∀ o, sI.heap.get? p = some o → False := fun o e => by
      have z := nb p o e (by rw [hst]; exact off)
      rw [f3.2.1] at z
      cases z
    have n0 : X.s_0.heap.get? p = none := by
      cases e : X.s_0.heap.get? p with
      | none => rfl
      | some o =>
        obtain ⟨o', z⟩ := J.base.there p o e (by rw [hex]; exact fun z => nomatch z)
        exact (nI o' z).elim
    have S3 := J3.suite ho3 hd3 np nL nF
    refine wpAny_handleBy_cons (codeAny_handlers_test ?_) (by intro q; cases q)
    have ty3 : PySem.W.Looks (model X.prog X.w) h3 (typeOf (.ref p)) (.ref C) := fun _ _ _ _ k q => wpAny_typeOf_ref (k _ _ ho3) (by rw [hz3.1]; exact q)
    have mt3 := PySem.W.exm_one (M := model X.prog X.w) (J3.kIn) ty3 hb1
    have named : ∀ {Q : Value → Shared → Prop} {E : Value → Shared → Prop}, Q c { s' with heap := h3 } →
        wpAny (model X.prog X.w) (X.A.mark (some (.ref p))) (eval (.Name x qn) X.env) Q E { s' with heap := h3 } := by
      intro Q E w
      obtain ⟨g1, g2, g3⟩ := hcn
      rcases g3 with g3 | ⟨g3, g4, g5⟩
      · exact ld_glob (X := X.suite p ((p, o3) :: (X.pn ++ pins))) S3 g1 g3 w g2
      · exact ld_blt (X := X.suite p ((p, o3) :: (X.pn ++ pins))) S3 g1 g3 g4 w g5 g2
    refine named (mt3.here ?_)
    cases b with
    | true =>
      refine codeAny_handlers_suite_as (HandSPX.lands_againZ f3 fun h4 f4 up4 => ?_)
      have J4 : Inv X pins σ' H' { s' with heap := h4 } := J.landed nb f4.1 ((up.trans up3).trans up4) os ag
      obtain ⟨o4, v4, ho4, hz4, hd4⟩ := f4.there
      have S4 := J4.suite ho4 hd4 np nL nF
      refine store_ok (X := X.suite p ((p, o4) :: (X.pn ++ pins))) (v := .ref p) S4 hND hi (.inl hln) rfl (fun s5 S5 => ?_) (.inr hln)
      have su : PSs (X.suite p ((p, o4) :: (X.pn ++ pins))) [.Assign [.Name r q1] (.Name n q2) q3] (tAsg (tVar i) (gName j)) :=
        pss_one (ps_set hND hj (.inl hlr) (pe_var hi (.inl hln) hdn hcd) (hsw p (X.pn ++ pins)) (.inr hlr))
      have lt : i < σ'.length := by rw [J.len]; exact (List.getElem?_eq_some_iff.mp hi).1
      refine wpAny_mono (su.run [] s5 _ H' { nx := fun σ6 H6 => σ6 = (σ'.set i (some (.ref p))).set j (some (.ref p)) ∧ H6 = H', rt := fun _ _ => False, bk := fun _ _ => False, ct := fun _ _ => False } S5 ?_) (fun fl s6 hs6 => ?_) (fun _ _ z => False.elim z)
      · exact ⟨.ref p, by rw [List.getElem?_set_self lt], rfl, rfl⟩
      · cases fl with
        | next =>
          obtain ⟨σ6, H6, S6, rfl, rfl⟩ := hs6
          obtain ⟨hg6, _⟩ := S6.pin (p, o4) (List.mem_append_left _ List.mem_cons_self)
          have K6 := inv_track (S6.unsuite kk) hg6 hz4 hd4 np n0 nL
            (fun y c' e z => by
              obtain ⟨v, o, e1, _⟩ := J.cell y c' e
              rw [z] at e1
              exact nI o e1)
            (fun q' hq z => by
              have e1 := (J.pin q' hq).1
              rw [z] at e1
              exact nI _ e1)
          exact gone_ok K6 hND hi hln fun s7 J7 => ⟨_, _, J7, hyes rfl p np⟩
        | brk => obtain ⟨_, _, _, z⟩ := hs6; exact z.elim
        | cont => obtain ⟨_, _, _, z⟩ := hs6; exact z.elim
        | ret u => obtain ⟨_, _, _, _, _, z⟩ := hs6; exact z.elim
    | false =>
      show wpAny _ X.A (handleBy (.ref p) X.env []) _ _ _
      refine wpAny_handleBy_nil ?_
      obtain ⟨k1, k2, k3, oe, vs, T, oT, ts', he, hz, hd, h1, hr⟩ := id f3
      unfold PySem.passOn
      refine wpAny_bind (wpAny_field he hd h1 ?_)
      rw [if_neg (show ¬ ((Value.ref T == Value.none) = true) by simp)]
      have last : wpAny (model X.prog X.w) X.A (setFlight (.ref p) X.env.frame) (fun _ t4 => wpAny (model X.prog X.w) X.A (throw (.ref p) : Sem Flow) (L2.SP X pins D) X.xe t4) X.xe { s' with heap := h3 } := by
        rw [hfm]
        refine HandSPX.setFlight_upZ f3 fun h4 g4 up4 => wpAny_throw (tk _ _ ?_)
        exact ⟨p, B, sI, pins, σ', H', .ref C, d, rfl, J, nb, (up.trans up3).trans up4, .inr (.inr (by rw [hst]; exact g4)), np, os, ag, hno rfl⟩
      first
        | exact wpAny_bind (wpAny_pure (wpAny_bind last))
        | exact wpAny_bind last
  · cases fl with
    | next =>
      obtain ⟨σ', H', J', w⟩ := hsp
      exact wpAny_execs_nil ⟨σ', H', J'.ofTry kk, w⟩
    | brk =>
      obtain ⟨σ', H', J', w⟩ := hsp
      exact ⟨σ', H', J'.ofTry kk, w⟩
    | cont =>
      obtain ⟨σ', H', J', w⟩ := hsp
      exact ⟨σ', H', J'.ofTry kk, w⟩
    | ret u =>
      obtain ⟨v, σ', H', J', r', w⟩ := hsp
      exact ⟨v, σ', H', J'.ofTry kk, r', w⟩
end

/-! ### what a class of exceptions must say -/
structure ClsX (K : PySem.W.Frag) (C : Addr) : Prop where
  cl : (PySem.W.clsIn K C).isSome = true
  ga : PySem.W.findIn K (.ref C) "__getattribute__" = some (some (.builtin "BaseException.__getattribute__"))
  gg : PySem.W.findIn K (.ref C) "__getattr__" = some none
  sb : PySem.W.subIn K (.ref C) (.type "BaseException") = some true
  ca : PySem.W.findIn K (.ref C) "__class__" = some (some (.builtin "object.__class__"))
  cg : PySem.W.specialIn K (.builtin "object.__class__") "__get__" = some (some (.builtin "getset_descriptor.__get__"))
  ct : PySem.W.takesIn K (.builtin "object.__class__") = some true
  mo : PySem.W.mroIn K C (.type "object") = some true
  hd : PySem.W.hasDictIn K C = true
  ty : PySem.W.typeIn K (.ref C) = some (.type "type")
  kp : PySem.W.keepIn K (.ref C) = true
def clsXB (K : PySem.W.Frag) (C : Addr) : Bool :=
  (PySem.W.clsIn K C).isSome && (decide (PySem.W.findIn K (.ref C) "__getattribute__" = some (some (.builtin "BaseException.__getattribute__"))) && (decide (PySem.W.findIn K (.ref C) "__getattr__" = some none) &&
  (decide (PySem.W.subIn K (.ref C) (.type "BaseException") = some true) && (decide (PySem.W.findIn K (.ref C) "__class__" = some (some (.builtin "object.__class__"))) &&
  (decide (PySem.W.specialIn K (.builtin "object.__class__") "__get__" = some (some (.builtin "getset_descriptor.__get__"))) && (decide (PySem.W.takesIn K (.builtin "object.__class__") = some true) &&
  (decide (PySem.W.mroIn K C (.type "object") = some true) && (PySem.W.hasDictIn K C && (decide (PySem.W.typeIn K (.ref C) = some (.type "type")) && PySem.W.keepIn K (.ref C))))))))))
theorem clsXB_ok {K : PySem.W.Frag} {C : Addr} (h : clsXB K C = true) : ClsX K C := by
  unfold clsXB at h
  simp only [Bool.and_eq_true, decide_eq_true_eq] at h
  obtain ⟨h1, h2, h3, h4, h5, h6, h7, h8, h9, h10, h11⟩ := h
  exact ⟨h1, h2, h3, h4, h5, h6, h7, h8, h9, h10, h11⟩
/-- the classes in a table, each with a truth -/
def TabX (K : PySem.W.Frag) (l : List (Str × Bool)) (f : Addr → Bool → Prop) : Prop := ∀ c b C, l.lookup c = some b → cmOf K c = some C → ClsX K C ∧ f C b
def tabXB (K : PySem.W.Frag) (l : List (Str × Bool)) (f : Addr → Bool → Bool) : Bool := l.all fun p => match cmOf K p.1 with
  | some C => clsXB K C && f C p.2
  | none => false
theorem lookup_mem {κ α : Type} [BEq κ] [LawfulBEq κ] : ∀ {l : List (κ × α)} {c : κ} {b : α}, l.lookup c = some b → (c, b) ∈ l
  | [], _, _, h => by simp at h
  | (x, y) :: l, c, b, h => by
    rw [List.lookup_cons] at h
    split at h
    · rename_i q
      cases h
      rw [beq_iff_eq.mp q]
      exact List.mem_cons_self
    · exact List.mem_cons_of_mem _ (lookup_mem h)
theorem tabXB_ok {K : PySem.W.Frag} {l : List (Str × Bool)} {f : Addr → Bool → Bool} {g : Addr → Bool → Prop} (hfg : ∀ C b, f C b = true → g C b) (h : tabXB K l f = true) : TabX K l g := fun c b C e1 e2 => by
  have q := List.all_eq_true.mp h _ (lookup_mem e1)
  dsimp only at q
  rw [e2] at q
  obtain ⟨q1, q2⟩ := Bool.and_eq_true_iff.mp q
  exact ⟨clsXB_ok q1, hfg C b q2⟩

/-! ### caught and kept -/
def xoOf (c : Str) : List (Str × D) → Option D
  | [] => some (.xo c (Str.ofString "") .non)
  | [(f, v)] => some (.xo c f v)
  | _ => none
def mTryK (tab : List (Str × Bool)) (i j : Nat) (b : MS) : MS := fun ρ h => match b ρ h with
  | .exc c fs ρ1 h1 => match tab.lookup c with
    | some true => match xoOf c fs with
      | some d => .nx (((ρ1.set i none).set j (some d)).set i none) h1
      | none => .bad
    | some false => .exc c fs ρ1 h1
    | none => .bad
  | o => o
section
variable {K : PySem.W.Frag} {H : Hp} {μ : List Addr} {h : MH}
theorem xr_xo {cls : Value} {d : Option Addr} {c : Str} {fs : List (Str × D)} {C p : Addr} {dv : D} (x : XR (gOf w K) H μ (.ref C) d c fs) (e : xoOf c fs = some dv) (np : H p = none) : VR (gOf w K) (upd H p (XOk C d p)) μ (.ref p) dv := by
  obtain ⟨C', e1, e2, e3⟩ := x
  cases e1
  have m : Mon (gOf w K) H (upd H p (XOk C d p)) μ μ := (Saf.fresh np).mon
  rcases e3 with ⟨rfl, rfl⟩ | ⟨dd, fv, hne, rfl, h1, h2⟩
  · cases e
    exact .xo (v := .non) upd_same e2 (.inl ⟨rfl, rfl⟩) .non
  · cases h2 with
    | nil => exact absurd rfl hne
    | cons a b =>
      cases b with
      | nil =>
        cases e
        refine .xo upd_same e2 (.inr ⟨dd, _, rfl, by rw [upd_ne (ne_of_none h1 np)]; exact h1, ?_⟩) (a.mono m)
        simp [List.lookup]
      | cons _ _ => cases e
end

section
variable {X : Cx} {x n r : Str} {c : Value} {i j : Nat} {body : List Stmt} {qn q0 q1 q2 q3 q4 : Pos} {mb : MS} {W : WX} {tab : List (Str × Bool)}
theorem sx_tryK (tk : Takes X W) (hcn : Names X x c) (ht : TabX X.K tab fun C b => PySem.W.exmOne X.K (.ref C) c = some b)
    (hbd : ∀ (W : WX) (pn : List (Addr × Obj)) (xe : Value → Shared → Prop), Takes (X.tr pn xe) W → PSs (X.tr pn xe) body (tS (gOf X.w X.K) W mb)) (hND : X.N.Nodup)
    (hi : X.N[i]? = some n := by rfl) (hj : X.N[j]? = some r := by rfl) (hij : i ≠ j := by decide) (hln : X.env.kindOf n = some .local := by rfl) (hlr : X.env.kindOf r = some .local := by rfl)
    (hst : X.stack = X.env :: X.outer := by rfl) (hfm : X.env.frame = some X.env.locals := by rfl) (hex : X.ex = [] := by rfl)
    (hdn : (n == ("__debug__" : Str)) = false := by decide) (hcd : (n == ("__classdict__" : Str)) = false := by decide)
    (hsw : swapsWith (.Name n q2) (some (.Name r q1)) q3.line X.env = pure false := by rfl) :
    PS X (.Try body [.ExceptHandler (some (.Name x qn)) (some n) [.Assign [.Name r q1] (.Name n q2) q3] q0] [] [] q4) (tS (gOf X.w X.K) W (mTryK tab i j mb)) :=
  ps_mono (ps_try_keep hst hfm hND hi hj hij hln hlr hcn tk hex hdn hcd (fun _ _ => hsw) (fun W pn xe t _ => hbd W pn xe t)) fun E σ H ⟨ρ, h, μ, sr, hr, bk⟩ => by
    refine ⟨ρ, h, μ, sr, hr, ?_⟩
    simp only [mTryK] at bk
    cases e : mb ρ h with
    | exc cn fs ρ1 h1 =>
      rw [e] at bk
      dsimp only at bk
      intro cls d σ' H' μ' m sr' hr' xr
      obtain ⟨C, rfl, hC, xr'⟩ := id xr
      cases l : tab.lookup cn with
      | none => rw [l] at bk; exact bk.elim
      | some b =>
        rw [l] at bk
        obtain ⟨_, q⟩ := ht cn b C l hC
        refine ⟨b, C, rfl, q, fun hb p np => ?_, fun hb => ?_⟩
        · subst hb
          dsimp only at bk
          cases z : xoOf cn fs with
          | none => rw [z] at bk; exact bk.elim
          | some dv =>
            rw [z] at bk
            have m2 : Mon (gOf X.w X.K) H' (upd H' p (XOk C d p)) μ' μ' := (Saf.fresh np).mon
            refine bk _ _ μ' (m.trans m2) ?_ (hr'.laid np)
            exact (((sr'.mono m2).unset i _).set j (xr_xo (cls := .ref C) xr z np)).unset i _
        · subst hb
          exact bk _ d σ' H' μ' m sr' hr' xr
    | nx _ _ => rw [e] at bk; exact bk
    | rt _ _ => rw [e] at bk; exact bk
    | bk _ _ => rw [e] at bk; exact bk
    | ct _ _ => rw [e] at bk; exact bk
    | bad => rw [e] at bk; exact bk.elim
end

/-! ### the field of a kept exception -/
def tXk (K : PySem.W.Frag) (f : Str) (te : TE) : TE := fun σ H Q => te σ H fun x H1 => ∃ (p C dd : Addr) (fv : List (Str × V)) (v : V), x = .ref p ∧ H1 p = some (XOk C (some dd) p) ∧ H1 dd = some (.xd fv) ∧ fv.lookup f = some v ∧ ClsX K C ∧ PySem.W.findIn K (.ref C) f = some none ∧ Q v H1
theorem xok_at {P : Program} {w : World} {H : Hp} {hp : Heap} {p C : Addr} {d : Option Addr} (hok : HOk P w H hp) (e : H p = some (XOk C d p)) : ∃ (ob : Obj) (vs : Array Value), hp.get? p = some ob ∧ Zc (.ref C) d ob ∧ ob.data = .fields vs := (hok p _ e).1
def mXf (cs : List Str) (f : Str) (a : ME) : ME := fun ρ h => (a ρ h).bind fun x h1 => match x with
  | .xo c f' v => if c ∈ cs ∧ f' = f ∧ f ≠ Str.ofString "" then .ok v h1 else .bad
  | _ => .bad
/-! ### isinstance of a kept exception -/
def XAt (H : Hp) (p C : Addr) : Prop := ∃ d, H p = some (XOk C d p) ∧ (d = none ∨ ∃ dd fv, d = some dd ∧ H dd = some (.xd fv))
theorem xat_kit {X : Cx} {pins : List (Addr × Obj)} {σ : L2.St} {H : Hp} {s : Shared} {p C : Addr} (I : Inv X pins σ H s) (T : ClsX X.K C) (h : XAt H p C) : ∃ Pr : Heap → Prop, PySem.W.KitX X.K (.ref p) (.ref C) Pr ∧ Pr s.heap := by
  obtain ⟨d, e1, e2⟩ := h
  obtain ⟨ob, vs, ho, hz, hd⟩ := xok_at I.hok e1
  have nc : PySem.W.notCls ob = true := by unfold PySem.W.notCls; rw [hd] <;> rfl
  rcases e2 with rfl | ⟨dd, fv, rfl, e3⟩
  · exact ⟨_, PySem.W.kitx_exc (ox := ob) (od := none) T.cl T.ga T.gg T.sb T.ca T.cg T.ct T.mo, ⟨ho, hz.1, nc, by rw [hz.2]; trivial⟩⟩
  · obtain ⟨mA, hns, _⟩ := (show ObjOk X.prog X.w H s.heap dd (.xd fv) from I.hok dd _ e3)
    obtain ⟨od, hod, _⟩ := lookIn_ns hns
    exact ⟨_, PySem.W.kitx_exc (ox := ob) (od := some od) T.cl T.ga T.gg T.sb T.ca T.cg T.ct T.mo, ⟨ho, hz.1, nc, by rw [hz.2]; exact hod⟩⟩
def Det (c : V) (u : Value) : Prop := ∀ w, RelV c w → w = u
theorem dets : ∀ {cs : List V} {us ws : List Value}, Paired Det cs us → Vals cs ws → ws = us
  | _, _, _, .nil, .nil => rfl
  | _, _, _, .cons a b, .cons r t => by rw [a _ r, dets b t]
def rIsXk (K : PySem.W.Frag) : List V → Hp → VK → Prop := fun xs H Q => ∃ (p C : Addr) (c : V) (cv : Value) (b : Bool), xs = [.ref p, c] ∧ XAt H p C ∧ Det c cv ∧ ClsX K C ∧ PySem.W.kitOne K (.ref C) cv = some b ∧ Q (.bl b) H
theorem call_isXk {X : Cx} : CallR X (.builtin "isinstance") (rIsXk X.K) := by
  intro pins s σ H xs us Q I rr hh
  obtain ⟨p, C, c, cv, b, rfl, hx, hc, T, e, q⟩ := hh
  obtain ⟨u1, u2, rfl, r1, r2⟩ := vals2 rr
  cases (show u1 = Value.ref p from r1)
  cases hc _ r2
  obtain ⟨Pr, Z, z⟩ := xat_kit I T hx
  exact PySem.W.kia_one Z I.kIn z e (fun z => nomatch z) fun tk => ⟨.bl b, H, I.tok tk, rfl, q⟩
def rIsXt (K : PySem.W.Frag) : List V → Hp → VK → Prop := fun xs H Q => ∃ (p C tp : Addr) (o : Obj) (cs : List V) (cv : List Value) (b : Bool), xs = [.ref p, .ref tp] ∧ XAt H p C ∧ H tp = some (.frz o (.tup cs)) ∧ Paired Det cs cv ∧ ClsX K C ∧ PySem.W.kitAny K (.ref C) cv = some b ∧ Q (.bl b) H
theorem call_isXt {X : Cx} : CallR X (.builtin "isinstance") (rIsXt X.K) := by
  intro pins s σ H xs us Q I rr hh
  obtain ⟨p, C, tp, o, cs, cv, b, rfl, hx, hT, hc, T, e, q⟩ := hh
  obtain ⟨u1, u2, rfl, r1, r2⟩ := vals2 rr
  cases (show u1 = Value.ref p from r1)
  cases (show u2 = Value.ref tp from r2)
  obtain ⟨Pr, Z, z⟩ := xat_kit I T hx
  obtain ⟨_, _, its, rv, ob, h1, h2, n, h3⟩ := (show ObjOk X.prog X.w H s.heap tp (.frz o (.tup cs)) from I.hok tp _ hT)
  cases dets hc rv
  obtain ⟨oc, od, dt, sl⟩ := ob
  simp only at h2 h3
  subst h2 h3
  exact PySem.W.kia_tup Z I.kIn z h1 e (fun z => nomatch z) fun tk => ⟨.bl b, H, I.tok tk, rfl, q⟩
def mIsX (tab : List (Str × Bool)) (a : ME) : ME := fun ρ h => (a ρ h).bind fun x h1 => match x with
  | .xo c _ _ => match tab.lookup c with
    | some b => .ok (.bl b) h1
    | none => .bad
  | _ => .bad
theorem xat_of {g : G} {H : Hp} {μ : List Addr} {p C : Addr} {d : Option Addr} {f : Str} {v : V} (h1 : H p = some (XOk C d p)) (h3 : (f = Str.ofString "" ∧ d = none) ∨ ∃ dd fv, d = some dd ∧ H dd = some (.xd fv) ∧ fv.lookup f = some v) : XAt H p C :=
  ⟨d, h1, by
    rcases h3 with ⟨_, h⟩ | ⟨dd, fv, h, h', _⟩
    · exact .inl h
    · exact .inr ⟨dd, fv, h, h'⟩⟩
section
variable {X : Cx} {W : WX} {a : Expr} {ma : ME} {p p2 p3 pos : Pos} {y : Str} {tab : List (Str × Bool)}
theorem se_isX {cv : Value} {v : V} (ha : PE X a (tE (gOf X.w X.K) W ma)) (hm : X.mg "isinstance" = none) (hy : PE X (.Name y p2) (tC v)) (hd : Det v cv) (ht : TabX X.K tab fun C b => PySem.W.kitOne X.K (.ref C) cv = some b) (hg : Gl X "isinstance" := by rfl)
    (s1 : starEach [a, .Name y p2] X.env = (false, eval a X.env) :: starEach [.Name y p2] X.env := by rfl) (s2 : starEach [.Name y p2] X.env = (false, eval (.Name y p2) X.env) :: starEach [] X.env := by rfl)
    (hpl : (backTo pos (starEach [.Name y p2] X.env)).any (·.1) = false := by rfl) : PE X (.Call (.Name "isinstance" p) [a, .Name y p2] [] pos) (tE (gOf X.w X.K) W (mIsX tab ma)) :=
  pe_mono (pe_callB call_isXk hg hm (by decide +kernel) (pa_cons ha (pa_cons hy pa_nil s2) s1) (by decide) (by decide) s1 hpl) fun σ H Q ⟨ρ, h, μ, sr, hr, bk⟩ =>
    step (rel := VR) (rel' := VR) (ma := ma) (Q' := Q) sr hr bk fun x d h1 H1 μ1 m1 sr1 hr1 vx bk1 => by
      cases vx with
      | @xo p C d c f v dv e1 e2 e3 e4 =>
        dsimp only at bk1
        cases l : tab.lookup c with
        | none => rw [l] at bk1; exact bk1.elim
        | some b =>
          rw [l] at bk1
          obtain ⟨t1, t2⟩ := ht c b C l e2
          exact ⟨p, C, _, cv, b, rfl, xat_of (g := gOf X.w X.K) (μ := μ1) e1 e3, hd, t1, t2, bk1.val hr1 (.bl b)⟩
      | _ => exact bk1.elim
/-- names of classes -/
inductive NmX (X : Cx) : List Expr → List V → List Value → Prop
  | nil : NmX X [] [] []
  | cons {y : Str} {p : Pos} {D : Addr} {es : List Expr} {vs : List V} {us : List Value} : PE X (.Name y p) (tC (.ref D)) → starEach (.Name y p :: es) X.env = (false, eval (.Name y p) X.env) :: starEach es X.env → NmX X es vs us → NmX X (.Name y p :: es) (.ref D :: vs) (.ref D :: us)
theorem NmX.pa : ∀ {es : List Expr} {vs : List V} {us : List Value}, NmX X es vs us → PA X es (fun σ H Q => Q vs H) ∧ Paired Det vs us ∧ vs.length = es.length
  | _, _, _, .nil => ⟨pa_mono pa_nil fun _ _ _ q => q, .nil, rfl⟩
  | _, _, _, .cons a b c => by
    obtain ⟨h1, h2, h3⟩ := c.pa
    exact ⟨pa_mono (pa_cons a h1 b) fun _ _ _ q => q, .cons (fun w r => r) h2, by simp [h3]⟩
theorem se_isXT {es : List Expr} {vs : List V} {cv : List Value} {kx : Nat} (ha : PE X a (tE (gOf X.w X.K) W ma)) (hm : X.mg "isinstance" = none) (hy : NmX X es vs cv) (hl : es.length ≤ 100) (ht : TabX X.K tab fun C b => PySem.W.kitAny X.K (.ref C) cv = some b) (hg : Gl X "isinstance" := by rfl)
    (s1 : starEach [a, .Tuple es kx p2] X.env = (false, eval a X.env) :: starEach [.Tuple es kx p2] X.env := by rfl) (s2 : starEach [.Tuple es kx p2] X.env = (false, eval (.Tuple es kx p2) X.env) :: starEach [] X.env := by rfl)
    (hpl : (backTo pos (starEach [.Tuple es kx p2] X.env)).any (·.1) = false := by rfl) : PE X (.Call (.Name "isinstance" p) [a, .Tuple es kx p2] [] pos) (tE (gOf X.w X.K) W (mIsX tab ma)) := by
  obtain ⟨n1, n2, n3⟩ := hy.pa
  refine pe_mono (pe_callB call_isXt hg hm (by decide +kernel) (pa_cons ha (pa_cons (pe_tupF n1) pa_nil s2) s1) (by decide) (by decide) s1 hpl) fun σ H Q ⟨ρ, h, μ, sr, hr, bk⟩ => ?_
  refine step (rel := VR) (rel' := VR) (ma := ma) (Q' := Q) sr hr bk fun x d h1 H1 μ1 m1 sr1 hr1 vx bk1 => ?_
  cases vx with
  | @xo p C d c f v dv e1 e2 e3 e4 =>
    dsimp only at bk1
    cases l : tab.lookup c with
    | none => rw [l] at bk1; exact bk1.elim
    | some b =>
      rw [l] at bk1
      obtain ⟨t1, t2⟩ := ht c b C l e2
      refine ⟨by rw [n3]; exact Nat.le_trans hl (by rw [sizeLine_eq]; decide), fun tp ob np od => ?_⟩
      have m2 : Mon (gOf X.w X.K) H1 (upd H1 tp (.frz ob (.tup vs))) μ1 μ1 := (Saf.fresh np).mon
      have xa := xat_of (g := gOf X.w X.K) (μ := μ1) e1 e3
      refine ⟨p, C, tp, ob, vs, cv, b, rfl, ?_, upd_same, n2, t1, t2, (Bk.mono m2 bk1).val (hr1.laid np) (.bl b)⟩
      obtain ⟨d', x1, x2⟩ := xa
      refine ⟨d', by rw [upd_ne (ne_of_none x1 np)]; exact x1, ?_⟩
      rcases x2 with x2 | ⟨dd, fv, x2, x3⟩
      · exact .inl x2
      · exact .inr ⟨dd, fv, x2, by rw [upd_ne (ne_of_none x3 np)]; exact x3⟩
  | _ => exact bk1.elim
end
end Mi

/-! Raising: a class with one field, a class without. -/
namespace Mi
open PySem L2 PySem.Spec PyProof.Rows
def spInit (K : PySem.W.Frag) (f : Str) : Sp := fun vs H Q _ => ∃ (p C : Addr) (y : V), vs = [.ref p, y] ∧ OexC K C ∧ PySem.W.findIn K (.ref C) f = some none ∧ H p = some (exo p C none) ∧
  ∀ dx, H dx = none → dx ≠ p → Q .non (upd (upd H dx (exd dx [(f, y)])) p (exo p C (some dx)))
section
variable {P : Program} {w : World} {K : PySem.W.Frag} {mg : Str → Option Value} {base : Heap}
/-- a class with one field -/
def XI (P : Program) (w : World) (K : PySem.W.Frag) (mg : Str → Option Value) (base : Heap) (c f : Str) : Prop := ∃ (C fI : Addr) (fd : FuncData), cmOf K c = some C ∧ mg c = some (.ref C) ∧ OexC K C ∧
  PySem.W.findIn K (.ref C) "__init__" = some (some (.ref fI)) ∧ PySem.W.typeIn K (.ref fI) = some (.type "function") ∧ PySem.W.findIn K (.ref C) f = some none ∧ FnOk P w K mg base (L2.CX P w) 1 fI fd ["self", f] (spInit K f) ∧ Binds K fd ["self", f] []
/-- a class without -/
def X0 (K : PySem.W.Frag) (mg : Str → Option Value) (c : Str) : Prop := ∃ C : Addr, cmOf K c = some C ∧ mg c = some (.ref C) ∧ PySem.W.excIn K C [.type "ValueError", .type "Exception", .type "BaseException", .type "object"] "ValueError.__new__" = true ∧
  PySem.W.keepIn K (.ref C) = true ∧ PySem.W.subIn K (.ref C) (.type "BaseException") = some true ∧ PySem.W.typeIn K (.ref C) = some (.type "type")
end
def mRaise (c f : Str) (a : ME) : MS := fun ρ h => (a ρ h).out ρ fun d h1 => .exc c [(f, d)] ρ h1
def mRaise0 (c : Str) : MS := fun ρ h => .exc c [] ρ h
section
variable {X : Cx} {W : WX} {e : Expr} {me : ME} {c f m : Str} {p p2 pos pos2 : Pos} {j : Nat}
theorem sx_raise0 (I : X0 X.K X.mg c) (tk : Takes X W) (hc : X.calm = true := by rfl) (hg : Gl X c := by rfl) (hdb : (c == ("__debug__" : Str)) = false := by decide) :
    PS X (.Raise (some (.Call (.Name c p) [.Constant (.str m) j p2] [] pos)) none pos2) (tS (gOf X.w X.K) W (mRaise0 c)) := by
  obtain ⟨C, cm, hm, x1, kp, sb, ty⟩ := I
  exact ps_mono (ps_raise hc tk (pmk_own PySem.F.excBase_ValueError x1 hm kp (raises_own sb ty) hg hdb)) fun E σ H ⟨ρ, h, μ, sr, hr', bk⟩ => bk _ none σ H μ Mon.refl sr hr' ⟨C, rfl, cm, .inl ⟨rfl, rfl⟩⟩
end
/-! ### tables by truths -/
section
variable {K : PySem.W.Frag} {h : Heap} {mg : Str → Option Value}
theorem cm_mg {x : Str} {C : Addr} (X : K.In h) (G : h.Ns mainGlobals mg) (e : cmOf K x = some C) : mg x = some (.ref C) := by
  unfold cmOf at e
  split at e
  · rename_i C' q
    cases e
    exact PySem.W.mg_of X G q
  · cases e
/-- the class y, as isinstance and except ask for it -/
def IsT (K : PySem.W.Frag) (mg : Str → Option Value) (y : Str) (l : List (Str × Bool)) : Prop := ∃ D, mg y = some (.ref D) ∧ TabX K l fun C b => PySem.W.kitOne K (.ref C) (.ref D) = some b
def ExT (K : PySem.W.Frag) (mg : Str → Option Value) (y : Str) (l : List (Str × Bool)) : Prop := ∃ D, mg y = some (.ref D) ∧ TabX K l fun C b => PySem.W.exmOne K (.ref C) (.ref D) = some b
def isTB (K : PySem.W.Frag) (y : Str) (l : List (Str × Bool)) : Bool := match cmOf K y with
  | some D => tabXB K l fun C b => PySem.W.kitOne K (.ref C) (.ref D) == some b
  | none => false
def exTB (K : PySem.W.Frag) (y : Str) (l : List (Str × Bool)) : Bool := match cmOf K y with
  | some D => tabXB K l fun C b => PySem.W.exmOne K (.ref C) (.ref D) == some b
  | none => false
theorem isTB_ok {y : Str} {l : List (Str × Bool)} (X : K.In h) (G : h.Ns mainGlobals mg) (e : isTB K y l = true) : IsT K mg y l := by
  unfold isTB at e
  split at e
  · rename_i D q
    exact ⟨D, cm_mg X G q, tabXB_ok (fun C b z => by simpa using z) e⟩
  · cases e
theorem exTB_ok {y : Str} {l : List (Str × Bool)} (X : K.In h) (G : h.Ns mainGlobals mg) (e : exTB K y l = true) : ExT K mg y l := by
  unfold exTB at e
  split at e
  · rename_i D q
    exact ⟨D, cm_mg X G q, tabXB_ok (fun C b z => by simpa using z) e⟩
  · cases e
/-- a built-in class -/
def IsB (K : PySem.W.Frag) (y : String) (l : List (Str × Bool)) : Prop := TabX K l fun C b => PySem.W.kitOne K (.ref C) (.type y) = some b
def isBB (K : PySem.W.Frag) (y : String) (l : List (Str × Bool)) : Bool := tabXB K l fun C b => PySem.W.kitOne K (.ref C) (.type y) == some b
theorem isBB_ok {y : String} {l : List (Str × Bool)} (e : isBB K y l = true) : IsB K y l := tabXB_ok (fun C b z => by simpa using z) e
/-- several classes -/
def refsOf (K : PySem.W.Frag) : List Str → Option (List Addr)
  | [] => some []
  | y :: r => match cmOf K y, refsOf K r with
    | some D, some l => some (D :: l)
    | _, _ => none
def IsTs (K : PySem.W.Frag) (mg : Str → Option Value) (ys : List Str) (l : List (Str × Bool)) : Prop := ∃ Ds : List Addr, Paired (fun y D => mg y = some (.ref D)) ys Ds ∧ TabX K l fun C b => PySem.W.kitAny K (.ref C) (Ds.map .ref) = some b
def isTsB (K : PySem.W.Frag) (ys : List Str) (l : List (Str × Bool)) : Bool := match refsOf K ys with
  | some Ds => tabXB K l fun C b => PySem.W.kitAny K (.ref C) (Ds.map .ref) == some b
  | none => false
theorem refsOf_ok (X : K.In h) (G : h.Ns mainGlobals mg) : ∀ {ys : List Str} {Ds : List Addr}, refsOf K ys = some Ds → Paired (fun y D => mg y = some (.ref D)) ys Ds
  | [], _, e => by cases e; exact .nil
  | y :: r, _, e => by
    simp only [refsOf] at e
    split at e
    · rename_i D l h1 h2
      cases e
      exact .cons (cm_mg X G h1) (refsOf_ok X G h2)
    · cases e
theorem isTsB_ok {ys : List Str} {l : List (Str × Bool)} (X : K.In h) (G : h.Ns mainGlobals mg) (e : isTsB K ys l = true) : IsTs K mg ys l := by
  unfold isTsB at e
  split at e
  · rename_i Ds q
    exact ⟨Ds, refsOf_ok X G q, tabXB_ok (fun C b z => by simpa using z) e⟩
  · cases e
/-- a field -/
def FlT (K : PySem.W.Frag) (f : Str) (cs : List Str) : Prop := ∀ c ∈ cs, ∀ C, cmOf K c = some C → ClsX K C ∧ PySem.W.findIn K (.ref C) f = some none
def flTB (K : PySem.W.Frag) (f : Str) (cs : List Str) : Bool := cs.all fun c => match cmOf K c with
  | some C => clsXB K C && decide (PySem.W.findIn K (.ref C) f = some none)
  | none => false
/-- a class without fields, to be raised -/
def x0B (K : PySem.W.Frag) (c : Str) : Bool := match cmOf K c with
  | some C => PySem.W.excIn K C [.type "ValueError", .type "Exception", .type "BaseException", .type "object"] "ValueError.__new__" && (PySem.W.keepIn K (.ref C) && (decide (PySem.W.subIn K (.ref C) (.type "BaseException") = some true) && decide (PySem.W.typeIn K (.ref C) = some (.type "type"))))
  | none => false
theorem x0B_ok {c : Str} (X : K.In h) (G : h.Ns mainGlobals mg) (e : x0B K c = true) : X0 K mg c := by
  unfold x0B at e
  split at e
  · rename_i C q
    simp only [Bool.and_eq_true, decide_eq_true_eq] at e
    exact ⟨C, q, cm_mg X G q, e.1, e.2.1, e.2.2.1, e.2.2.2⟩
  · cases e
end

/-- a class over ValueError whose instances get fields -/
def oexB (K : PySem.W.Frag) (C : Addr) : Bool := (match K.lookup C with
  | some ⟨.type "type", _, .cls cd, sl⟩ => (match cd.mro, sl.toList with
    | .ref D :: bm, [_, _, _, _, some (.builtin n), _] => (D == C && (n == "ValueError.__new__" && (!cd.hasDel && (cd.hasDict && PySem.HandSPX.refsVE bm))))
    | _, _ => false)
  | _ => false) && (decide (PySem.W.findIn K (.ref C) "__setattr__" = some (some (.builtin "object.__setattr__"))) && (decide (PySem.W.subIn K (.ref C) (.type "BaseException") = some true) && (decide (PySem.W.typeIn K (.ref C) = some (.type "type")) && PySem.W.keepIn K (.ref C))))
def inner (s : Stmt) (j : Nat) : Stmt := match s with
  | .ClassDef (body := b) .. => b.getD j (.Pass ⟨0, 0, 0, 0⟩)
  | _ => .Pass ⟨0, 0, 0, 0⟩
/-! ### as the generator writes them -/
section
variable {X : Cx} {W : WX} {a : Expr} {ma : ME} {x y n r : Str} {i j : Nat} {body : List Stmt} {mb : MS} {tab : List (Str × Bool)} {p p2 pos qn q0 q1 q2 q3 q4 : Pos}
theorem sx_try (T : ExT X.K X.mg x tab) (tk : Takes X W)
    (hbd : ∀ (W : WX) (pn : List (Addr × Obj)) (xe : Value → Shared → Prop), Takes (X.tr pn xe) W → PSs (X.tr pn xe) body (tS (gOf X.w X.K) W mb)) (hND : X.N.Nodup) (hg : Gl X x := by rfl) (hdb : (x == ("__debug__" : Str)) = false := by decide)
    (hi : X.N[i]? = some n := by rfl) (hj : X.N[j]? = some r := by rfl) (hij : i ≠ j := by decide) (hln : X.env.kindOf n = some .local := by rfl) (hlr : X.env.kindOf r = some .local := by rfl)
    (hst : X.stack = X.env :: X.outer := by rfl) (hfm : X.env.frame = some X.env.locals := by rfl) (hex : X.ex = [] := by rfl)
    (hdn : (n == ("__debug__" : Str)) = false := by decide) (hcd : (n == ("__classdict__" : Str)) = false := by decide)
    (hsw : swapsWith (.Name n q2) (some (.Name r q1)) q3.line X.env = pure false := by rfl) :
    PS X (.Try body [.ExceptHandler (some (.Name x qn)) (some n) [.Assign [.Name r q1] (.Name n q2) q3] q0] [] [] q4) (tS (gOf X.w X.K) W (mTryK tab i j mb)) := by
  obtain ⟨D, h1, h2⟩ := T
  exact sx_tryK tk ⟨hg, hdb, .inl h1⟩ h2 hbd hND hi hj hij hln hlr hst hfm hex hdn hcd hsw
theorem se_isO (T : IsT X.K X.mg y tab) (ha : PE X a (tE (gOf X.w X.K) W ma)) (hm : X.mg "isinstance" = none) (hgy : Gl X y := by rfl) (hdy : (y == ("__debug__" : Str)) = false := by decide) (hg : Gl X "isinstance" := by rfl)
    (s1 : starEach [a, .Name y p2] X.env = (false, eval a X.env) :: starEach [.Name y p2] X.env := by rfl) (s2 : starEach [.Name y p2] X.env = (false, eval (.Name y p2) X.env) :: starEach [] X.env := by rfl)
    (hpl : (backTo pos (starEach [.Name y p2] X.env)).any (·.1) = false := by rfl) : PE X (.Call (.Name "isinstance" p) [a, .Name y p2] [] pos) (tE (gOf X.w X.K) W (mIsX tab ma)) := by
  obtain ⟨D, h1, h2⟩ := T
  exact se_isX (cv := .ref D) (v := .ref D) ha hm (pe_glob hgy h1 rfl hdy) (fun w r => r) h2 hg s1 s2 hpl
theorem se_isV {t : String} (T : IsB X.K t tab) (ha : PE X a (tE (gOf X.w X.K) W ma)) (hm : X.mg "isinstance" = none) (hmy : X.mg y = none) (hv : bootBuiltins y = some (.type t)) (hgy : Gl X y := by rfl) (hny : y ≠ "__name__" := by decide) (hdy : (y == ("__debug__" : Str)) = false := by decide) (hg : Gl X "isinstance" := by rfl)
    (s1 : starEach [a, .Name y p2] X.env = (false, eval a X.env) :: starEach [.Name y p2] X.env := by rfl) (s2 : starEach [.Name y p2] X.env = (false, eval (.Name y p2) X.env) :: starEach [] X.env := by rfl)
    (hpl : (backTo pos (starEach [.Name y p2] X.env)).any (·.1) = false := by rfl) : PE X (.Call (.Name "isinstance" p) [a, .Name y p2] [] pos) (tE (gOf X.w X.K) W (mIsX tab ma)) :=
  se_isX (cv := .type t) (v := .ty t) ha hm (pe_bltn hgy hmy hv rfl hny hdy) (fun w r => r) T hg s1 s2 hpl
inductive NmE (X : Cx) : List Expr → List Str → Prop
  | nil : NmE X [] []
  | cons {y : Str} {p : Pos} {es : List Expr} {ys : List Str} : Gl X y → (y == ("__debug__" : Str)) = false → starEach (.Name y p :: es) X.env = (false, eval (.Name y p) X.env) :: starEach es X.env → NmE X es ys → NmE X (.Name y p :: es) (y :: ys)
theorem nm_cons {y : Str} {p : Pos} {es : List Expr} {ys : List Str} (h : NmE X es ys) (hg : Gl X y := by rfl) (hd : (y == ("__debug__" : Str)) = false := by decide) (hs : starEach (.Name y p :: es) X.env = (false, eval (.Name y p) X.env) :: starEach es X.env := by rfl) : NmE X (.Name y p :: es) (y :: ys) := .cons hg hd hs h
theorem NmE.of : ∀ {es : List Expr} {ys : List Str} {Ds : List Addr}, NmE X es ys → Paired (fun y D => X.mg y = some (.ref D)) ys Ds → NmX X es (Ds.map .ref) (Ds.map .ref)
  | _, _, _, .nil, .nil => .nil
  | _, _, _, .cons a b c d, .cons e f => .cons (pe_glob a e rfl b) c (NmE.of d f)
theorem se_isOs {es : List Expr} {ys : List Str} {kx : Nat} (T : IsTs X.K X.mg ys tab) (ha : PE X a (tE (gOf X.w X.K) W ma)) (hm : X.mg "isinstance" = none) (hy : NmE X es ys) (hl : es.length ≤ 100 := by decide) (hg : Gl X "isinstance" := by rfl)
    (s1 : starEach [a, .Tuple es kx p2] X.env = (false, eval a X.env) :: starEach [.Tuple es kx p2] X.env := by rfl) (s2 : starEach [.Tuple es kx p2] X.env = (false, eval (.Tuple es kx p2) X.env) :: starEach [] X.env := by rfl)
    (hpl : (backTo pos (starEach [.Tuple es kx p2] X.env)).any (·.1) = false := by rfl) : PE X (.Call (.Name "isinstance" p) [a, .Tuple es kx p2] [] pos) (tE (gOf X.w X.K) W (mIsX tab ma)) := by
  obtain ⟨Ds, h1, h2⟩ := T
  exact se_isXT ha hm (hy.of h1) hl h2 hg s1 s2 hpl
end
end Mi

/-! The calculus for exceptions. -/
namespace Mi
open PySem L2
def isXK (tab : List (Str × Bool)) (x : D) (h : MH) : R D := match x with
  | .xo c _ _ => match tab.lookup c with
    | some b => .ok (.bl b) h
    | none => .bad
  | _ => .bad
def xfK (cs : List Str) (f : Str) (x : D) (h : MH) : R D := match x with
  | .xo c f' v => if c ∈ cs ∧ f' = f ∧ f ≠ Str.ofString "" then .ok v h else .bad
  | _ => .bad
def tryE (tab : List (Str × Bool)) (i j : Nat) (N : SP) (E : SX) : SX := fun c fs ρ h => match tab.lookup c with
  | some true => ∃ d, xoOf c fs = some d ∧ N (((ρ.set i none).set j (some d)).set i none) h
  | some false => E c fs ρ h
  | none => False
section
variable {N : SP} {T : D → MH → Prop} {B C : SP} {E : SX} {ρ : Slots} {h : MH} {a : ME} {b : MS} {c f : Str}
theorem w_raise (q : Sat (a ρ h) (fun d h1 => E c [(f, d)] ρ h1) fun x fs h => E x fs ρ h) : OS (mRaise c f a ρ h) N T B C E := Sat.ot (q.monoE (fun _ _ z => by rw [OS_exc]; exact z) fun _ _ _ z => z)
theorem w_raise0 (q : E c [] ρ h) : OS (mRaise0 c ρ h) N T B C E := by unfold mRaise0; rw [OS_exc]; exact q
theorem w_tryK {tab : List (Str × Bool)} {i j : Nat} (q : OS (b ρ h) N T B C (tryE tab i j N E)) : OS (mTryK tab i j b ρ h) N T B C E := by
  unfold mTryK
  cases e : b ρ h with
  | exc c fs ρ1 h1 =>
    rw [e, OS_exc] at q
    unfold tryE at q
    dsimp only
    split at q
    · rename_i l
      obtain ⟨d, e1, q⟩ := q
      (try rw [l])
      (try dsimp only)
      (try rw [e1])
      exact w_nx q
    · rename_i l
      (try rw [l])
      (try dsimp only)
      rw [OS_exc]
      exact q
    · exact q.elim
  | nx _ _ => rw [e, OS_nx] at q; exact w_nx q
  | rt _ _ => rw [e, OS_rt] at q; exact w_rt q
  | bk _ _ => rw [e, OS_bk] at q; exact w_bk q
  | ct _ _ => rw [e, OS_ct] at q; exact w_ct q
  | bad => rw [e, OS_bad] at q; exact q.elim
theorem tryE_t {tab : List (Str × Bool)} {i j : Nat} {fs : List (Str × D)} {d : D} (l : tab.lookup c = some true) (x : xoOf c fs = some d) (q : N (((ρ.set i none).set j (some d)).set i none) h) : tryE tab i j N E c fs ρ h := by
  unfold tryE
  rw [l]
  exact ⟨d, x, q⟩
variable {Q : D → MH → Prop} {X : XE}
theorem w_isX {tab : List (Str × Bool)} (q : Sat (a ρ h) (fun x h1 => Sat (isXK tab x h1) Q X) X) : Sat (mIsX tab a ρ h) Q X := Sat.bnd q
theorem w_isXK {tab : List (Str × Bool)} {v : D} {k : Bool} (l : tab.lookup c = some k) (q : Q (.bl k) h) : Sat (isXK tab (.xo c f v) h) Q X := w_eq (by simp only [isXK, l]) q
theorem w_xf {cs : List Str} (q : Sat (a ρ h) (fun x h1 => Sat (xfK cs f x h1) Q X) X) : Sat (mXf cs f a ρ h) Q X := Sat.bnd q
theorem w_xfK {cs : List Str} {v : D} (l : c ∈ cs) (n : f ≠ Str.ofString "") (q : Q v h) : Sat (xfK cs f (.xo c f v) h) Q X := w_eq (by unfold xfK; exact if_pos ⟨l, rfl, n⟩) q
theorem isN_xo {c f : Str} {v : D} (h : MH) : dIsN (.xo c f v) .non h = .ok (.bl false) h := by unfold dIsN; simp
end
theorem w_lenLm {α : Type} {f : α → D} {l : List α} {Q : D → MH → Prop} {E : XE} {h : MH} {i : Nat} (c : getL h i = some (l.map f)) (q : Q (.int l.length) h) : Sat (dLen [.ref i] h) Q E := w_lenL c (by rw [List.length_map]; exact q)
theorem w_lenTm {α : Type} {f : α → D} {l : List α} {Q : D → MH → Prop} {E : XE} {h : MH} (q : Q (.int l.length) h) : Sat (dLen [.tup (l.map f)] h) Q E := w_eq (dLen_tup _ _) (by rw [List.length_map]; exact q)
theorem dNe_strs (x y : Str) (h : MH) : dNe (.str x) (.str y) h = .ok (.bl (!decide (x = y))) h := dNe_of (by unfold eqD; simp [scalD])
theorem dEq_bls (x y : Bool) (h : MH) : dEq (.bl x) (.bl y) h = .ok (.bl (decide (x = y))) h := dEq_of (by unfold eqD; simp [scalD])
theorem dNe_bls (x y : Bool) (h : MH) : dNe (.bl x) (.bl y) h = .ok (.bl (!decide (x = y))) h := dNe_of (by unfold eqD; simp [scalD])
theorem w_iterL {QI : List D × (MH → Bool) → MH → Prop} {E : XE} {h : MH} {i : Nat} {l : List D} (e : getL h i = some l) (q : QI (l, fun h' => decide (getL h' i = some l)) h) : Sat (iter1 (.ok (.ref i) h)) QI E := w_eq (iter1_ref _ _ _ e) q
end Mi

/-! except without a name; walks from the end. -/
namespace Mi
open PySem L2
def mTryO (tab : List (Str × Bool)) (b s : MS) : MS := fun ρ h => match b ρ h with
  | .exc c fs ρ1 h1 => match tab.lookup c with
    | some true => s ρ1 h1
    | some false => .exc c fs ρ1 h1
    | none => .bad
  | o => o
section
variable {X : Cx} {x : Str} {body suite : List Stmt} {b0 : Stmt} {qn q0 q4 : Pos} {mb ms : MS} {W : WX} {tab : List (Str × Bool)}
end
def tryO (tab : List (Str × Bool)) (s : MS) (N : SP) (T : D → MH → Prop) (B C : SP) (E : SX) : SX := fun c fs ρ h => match tab.lookup c with
  | some true => OS (s ρ h) N T B C E
  | some false => E c fs ρ h
  | none => False
theorem lkA {x : Str} {k : Bool} {l : List (Str × Bool)} : List.lookup x ((x, k) :: l) = some k := by simp [List.lookup]
theorem lkB {x y : Str} {b : Bool} {l : List (Str × Bool)} {r : Option Bool} (h : (x == y) = false) (q : List.lookup x l = r) : List.lookup x ((y, b) :: l) = r := by rw [List.lookup_cons, h]; exact q
end Mi

/-! Lists walked from the end; while by a measure. -/
namespace Mi
open PySem L2
def revK (x : D) (h1 : MH) : R (List D × (MH → Bool)) := match x with
  | .ref i => match getL h1 i with
    | some l => .ok (l.reverse, fun h' => decide (getL h' i = some l)) h1
    | none => .bad
  | _ => .bad
def mRevI (a : ME) : MI := fun ρ h => (a ρ h).bind fun x h1 => revK x h1
section
variable {X : Cx} {g : G} {W : WX} {e tg : Expr} {ma : ME} {p pos : Pos}
end
section
variable {N : SP} {T : D → MH → Prop} {B C : SP} {E : SX} {QI : List D × (MH → Bool) → MH → Prop} {X : XE}
end

end Mi
namespace Mi
open PySem L2
def m_names_c11ae : List D → MH → R D := mFun 1 7
 (mSeq (mAsg 1 (mC (.str (Str.ofString "abcdefghijklmnopqrstuvwxyz"))))
 (mSeq (mAsg 2 (mBin dMod (mVar 0) (mC (.int 26))))
 (mSeq (mAsg 3 (mMeth isStrD dJoin (mC (.str (Str.ofString ""))) (mCons (mLc (mRange1 (mC (.int 8))) (mgName 6) (mYes) (mBin dIx (mVar 1) (mBin dMod (mBin dAdd (mVar 2) (mBin dMul (mC (.int 3)) (mVar 6))) (mC (.int 26)))) [6]) (mNil))))
 (mSeq (mIf (mB (mBin dEq (mBin dMod (mBin dFdiv (mVar 0) (mC (.int 26))) (mC (.int 3))) (mC (.int 0))))
 (mSeq (mAsg 4 (mBin dMod (mBin dFdiv (mVar 0) (mC (.int 78))) (mC (.int 8))))
 (mSeq (mAsg 5 (mBin dMod (mBin dFdiv (mVar 0) (mC (.int 624))) (mC (.int 26))))
 (mRet (mLc (mRange1 (mC (.int 9))) (mgName 6) (mYes) (mBin dAdd (mBin dAdd (mSl (mVar 3) (mNo) (mSome (mVar 4))) (mBin dIx (mVar 1) (mBin dMod (mBin dAdd (mVar 5) (mVar 6)) (mC (.int 26))))) (mSl (mVar 3) (mSome (mBin dAdd (mVar 4) (mC (.int 1)))) (mNo))) [6]))))
 (mSkip))
 (mSeq (mIf (mB (mBin dEq (mBin dMod (mBin dFdiv (mVar 0) (mC (.int 26))) (mC (.int 3))) (mC (.int 1))))
 (mRet (mBin dAdd (mLc (mRange1 (mC (.int 8))) (mgName 6) (mYes) (mSl (mVar 3) (mNo) (mSome (mBin dAdd (mVar 6) (mC (.int 1))))) [6]) (mLst (mCons (mSl (mVar 3) (mSome (mC (.int 1))) (mNo)) (mNil)))))
 (mSkip))
 (mRet (mLc (mRange1 (mC (.int 9))) (mgName 6) (mYes) (mBin dIx (mVar 1) (mBin dMod (mBin dAdd (mVar 2) (mBin dMul (mC (.int 5)) (mVar 6))) (mC (.int 26)))) [6])))))))
def m_cell_at_2c4cb : List D → MH → R D := mFun 2 2
 (mSeq (mIf (mB (mBin dLt (mVar 1) (mCall dLen (mCons (mVar 0) (mNil)))))
 (mRet (mBin dIx (mVar 0) (mVar 1)))
 (mSkip))
 (mRet (mC (.int 0))))
def m_mix_1b9e1 : List D → MH → R D := mFun 2 3
 (mSeq (mAsg 2 (mBin dMod (mBin dMul (mBin dAdd (mBin dAdd (mVar 0) (mC (.int 1))) (mBin dMul (mVar 1) (mVar 1))) (mC (.int 48271))) (mC (.int 2147483629))))
 (mRet (mBin dMod (mBin dMul (mVar 2) (mBin dAdd (mBin dAdd (mBin dFdiv (mVar 2) (mC (.int 128))) (mBin dMul (mC (.int 69621)) (mVar 1))) (mC (.int 16807)))) (mC (.int 2147483587)))))
def m_tape_92891 : List D → MH → R D := mFun 2 5
 (mSeq (mAsg 2 (mLst (mNil)))
 (mSeq (mAsg 3 (mVar 0))
 (mSeq (mFor (mRange1 (mVar 1)) (mgName 4)
 (mIf (mB (mBin dGe (mVar 3) (mBin dPow (mC (.int 10)) (mC (.int 18)))))
 (mSeq (mDrop (mMeth isListD dAppend (mVar 2) (mCons (mBin dMod (mVar 3) (mC (.int 1000003))) (mNil))))
 (mAsg 3 (mBin dFdiv (mVar 3) (mC (.int 1000003)))))
 (mDrop (mMeth isListD dAppend (mVar 2) (mCons (mCall (m_mix_1b9e1) (mCons (mVar 0) (mCons (mVar 4) (mNil)))) (mNil))))))
 (mRet (mRevL (mVar 2))))))
def m_next_fea17 : List D → MH → R D := mFun 2 2
 (mSeq (mIf (mB (mBin dEq (mVar 0) (mLst (mNil))))
 (mRet (mC (.int 0)))
 (mSkip))
 (mRet (mBin dMod (mMeth isListD dPop (mVar 0) (mNil)) (mVar 1))))
end Mi
namespace Mi
open PySem L2
end Mi
namespace Mi
open PySem L2
def m_free_docs_275c6 : List D → MH → R D := mFun 2 9
 (mSeq (mAsg 2 (mBin dMod (mBin dIx (mVar 0) (mC (.int 0))) (mC (.int 4))))
 (mSeq (mAsg 3 (mLc (mIter (mVar 0)) (mgName 4) (mYes) (mLst (mNil)) [4]))
 (mSeq (mFor (mRange2 (mC (.int 1)) (mCall dLen (mCons (mVar 0) (mNil)))) (mgName 4)
 (mSeq (mAsg 6 (mBin dFdiv (mBin dMod (mBin dMul (mBin dIx (mVar 0) (mVar 4)) (mC (.int 16807))) (mC (.int 2147483629))) (mC (.int 5))))
 (mSeq (mAsg 7 (mBin dIx (mLst (mCons (mBin dMod (mVar 6) (mVar 4)) (mCons (mBin dSub (mVar 4) (mC (.int 1))) (mCons (mC (.int 0)) (mCons (mBin dSub (mBin dSub (mVar 4) (mC (.int 1))) (mBin dMod (mVar 6) (mCall dMin (mCons (mVar 4) (mCons (mC (.int 3)) (mNil)))))) (mNil)))))) (mVar 2)))
 (mDrop (mMeth isListD dAppend (mBin dIx (mVar 3) (mVar 7)) (mCons (mVar 4) (mNil)))))))
 (mSeq (mAsg 5 (mLc (mIter (mVar 0)) (mgName 4) (mYes) (mC .non) [4]))
 (mSeq (mFor (mRev1 (mCall dLen (mCons (mVar 0) (mNil)))) (mgName 4)
 (mSetIx (mVar 5) (mVar 4) (mTup (mCons (mBin dIx (mVar 1) (mBin dMod (mBin dFdiv (mBin dIx (mVar 0) (mVar 4)) (mC (.int 4))) (mC (.int 9)))) (mCons (mCall dTuple (mCons (mLc (mIter (mBin dIx (mVar 3) (mVar 4))) (mgName 8) (mYes) (mBin dIx (mVar 5) (mVar 8)) [8]) (mNil))) (mNil))))))
 (mRet (mTup (mCons (mVar 5) (mCons (mVar 3) (mNil))))))))))
end Mi

/-! Lists and tuples many times. -/
namespace Mi
open PySem PySem.Spec PyProof.Rows L2
section
variable {X : Cx}
/-- a tuple of one item so many times -/
def rRepF (K : PySem.W.Frag) : R2 := fun x y H Q => ∃ l k z, x = .ref l ∧ y = .int k ∧ SqT K H l [z] ∧ 1 ≤ k ∧ k ≤ 1000 ∧
  (k = 1 → Q (.ref l) H) ∧ (2 ≤ k → ∀ (p : Addr) (ob : Obj), H p = none → ob.dict = none → Q (.ref p) (upd H p (.frz ob (.tup (List.replicate k.toNat [z]).flatten))))
end
def dRep : D → D → MH → R D
  | .ref i, .int n, h => match h[i]? with
    | some (.lst l) => if 0 ≤ n ∧ n ≤ 1000 ∧ l.length ≤ 1000 then .ok (.ref h.length) (h ++ [.lst (List.replicate n.toNat l).flatten]) else .bad
    | _ => .bad
  | .tup [z], .int n, h => if 1 ≤ n ∧ n ≤ 1000 then .ok (.tup (List.replicate n.toNat [z]).flatten) h else .bad
  | _, _, _ => .bad
section
variable {X : Cx} {g : G}
def rRepA (K : PySem.W.Frag) : R2 := fun x y H Q => rRep x y H Q ∨ rRepF K x y H Q
end
end Mi

/-! zip of tuples; sum, max of a list of ints. -/
namespace Mi
open PySem L2
def zipT (x y : D) (h : MH) : R (List D × (MH → Bool)) := match x, y with
  | .tup l, .tup m => .ok (zipD l m, yes) h
  | _, _ => .bad
def mZipT (a b : ME) : MI := fun ρ h => (a ρ h).bind fun x h1 => (b ρ h1).bind fun y h2 => zipT x y h2
section
variable {X : Cx} {g : G} {W : WX} {a b : Expr} {ma mb : ME} {pos : Pos}
theorem jr_zipT {H0 : Hp} {μ0 : List Addr} {p q : Addr} {xs ys : List V} {l m : List D} (hp : Tk g.K H0 p xs) (vs : VRs g H0 μ0 xs l) (hq : Tk g.K H0 q ys) (vt : VRs g H0 μ0 ys m) :
    JRr SV g H0 μ0 (RZ.ItzT g.K p q) (zipD l m, yes) := fun k H μ h mm hr gd => by
  have hs := (mm.tups _ _ hp).sq
  have ht := (mm.tups _ _ hq).sq
  have vs := vs.mono mm
  have vt := vt.mono mm
  refine ⟨fun lt => ?_, fun le => ?_⟩
  · obtain ⟨x, y, ex, ey, ed⟩ := zipD_get (List.getElem?_eq_getElem lt)
    obtain ⟨v, h1, h2⟩ := vs.get ex
    obtain ⟨w, h3, h4⟩ := vt.get ey
    refine ⟨⟨xs, ys, v, w, hs, ht, h1, h3⟩, fun z H' yl => ?_⟩
    obtain ⟨T, x', y', rfl, hT, rfl, e1, e2⟩ := yl
    have e1' := e1 xs hs
    have e2' := e2 ys ht
    rw [h1] at e1'
    rw [h3] at e2'
    cases e1'
    cases e2'
    have m2 : Mon g H (upd H T (.tup [v, w])) μ μ := (Saf.fresh hT).mon
    refine ⟨_, List.getElem?_eq_getElem lt, m2, hr.laid hT, T, [v, w], [x, y], rfl, ed, .inl (.inl upd_same), ?_⟩
    exact .cons (h2.mono m2) (.cons (h4.mono m2) .nil)
  · rw [zipD_length] at le
    refine ⟨xs, ys, hs, ht, ?_⟩
    rw [vs.length, vt.length]
    omega
theorem si_zipT {p tpos : Pos} {elts : List Expr} {kk : Nat} (hm : X.mg "zip" = none) (ha : PE X a (tE g W ma)) (hb : PE X b (tE g W mb)) (hg : Gl X "zip" := by rfl) (hK : X.K = g.K := by rfl)
    (hs : starEach [a, b] X.env = (false, eval a X.env) :: starEach [b] X.env := by rfl) (hs2 : starEach [b] X.env = (false, eval b X.env) :: starEach [] X.env := by rfl) (hpl : (backTo pos (starEach [b] X.env)).any (·.1) = false := by rfl) :
    PI X (.Tuple elts kk tpos) (.Call (.Name "zip" p) [a, b] [] pos) (tIr SV g W (mZipT ma mb)) :=
  pi_mono (RZ.pi_zipA hg hm (pa_cons ha (pa_cons hb pa_nil hs2) hs) hs hpl) fun σ H R ⟨ρ, h, μ, sr, hr, bk⟩ => step (rel := VR) (rel' := JRr SV) (ma := ma) (Q' := R) sr hr bk fun x d h1 H1 μ1 m1 sr1 hr1 vx bk1 =>
    step (rel := VR) (rel' := JRr SV) (ma := mb) (Q' := R) sr1 hr1 bk1 fun y d2 h2 H2 μ2 m2 sr2 hr2 vy bk2 => by
      have vx := vx.mono m2
      rw [hK]
      cases vx with
      | @tup p xs l hp vs =>
        cases vy with
        | @tup q ys m hq vt =>
          simp only [zipT] at bk2
          exact ⟨p, q, xs, ys, rfl, .inr ⟨hp.sq, hq.sq, bk2 _ H2 μ2 Mon.refl hr2 (jr_zipT hp vs hq vt)⟩⟩
        | _ => exact bk2.elim
      | _ => exact bk2.elim
end
/-- sum of a list of ints -/
def dSum : List D → MH → R D
  | [.ref i], h => match (getL h i).bind allInt with
    | some ns => .ok (.int ns.sum) h
    | none => .bad
  | _, _ => .bad
def topI : List Int → Int
  | [] => 0
  | [a] => a
  | a :: l => if topI l < a then a else topI l
def dMaxL : List D → MH → R D
  | [.ref i], h => match (getL h i).bind allInt with
    | some ns => if 0 < ns.length then .ok (.int (topI ns)) h else .bad
    | none => .bad
  | _, _ => .bad
section
variable {g : G}
end
/-! the calculus -/
section
variable {Q : D → MH → Prop} {QI : List D × (MH → Bool) → MH → Prop} {E : XE} {ρ : Slots} {h : MH} {a b : ME}
theorem w_zipT (q : Sat (a ρ h) (fun x h1 => Sat (b ρ h1) (fun y h2 => Sat (zipT x y h2) QI E) E) E) : Sat (mZipT a b ρ h) QI E := Sat.bnd (q.monoE (fun _ _ z => Sat.bnd z) fun _ _ _ z => z)
theorem w_zipTK {l m : List D} (q : QI (zipD l m, yes) h) : Sat (zipT (.tup l) (.tup m) h) QI E := w_ok q
end
end Mi
namespace Mi
open PySem L2
def m_items_b2406 : Nat → List D → MH → R D
 | 0 => fun _ _ => .bad
 | n + 1 => mFun 3 6
    (mSeq (mAsg 3 (mLst (mNil)))
     (mSeq (mFor (mRange1 (mCall (m_next_fea17) (mCons (mVar 0) (mCons (mC (.int 4)) (mNil))))) (mgName 4)
     (mIf (mB (mBin dEq (mCall (m_next_fea17) (mCons (mVar 0) (mCons (mC (.int 3)) (mNil)))) (mC (.int 0))))
     (mDrop (mMeth isListD dAppend (mVar 3) (mCons (mC (.str (Str.ofString "*"))) (mNil))))
     (mIf (mB (mBin dEq (mVar 1) (mC (.int 0))))
     (mDrop (mMeth isListD dAppend (mVar 3) (mCons (mTup (mCons (mBin dIx (mVar 2) (mCall (m_next_fea17) (mCons (mVar 0) (mCons (mC (.int 9)) (mNil))))) (mCons (mTup (mNil)) (mNil)))) (mNil))))
     (mSeq (mAsg 5 (mBin dIx (mVar 2) (mCall (m_next_fea17) (mCons (mVar 0) (mCons (mC (.int 9)) (mNil))))))
     (mDrop (mMeth isListD dAppend (mVar 3) (mCons (mTup (mCons (mVar 5) (mCons (mCall (m_items_b2406 n) (mCons (mVar 0) (mCons (mBin dSub (mVar 1) (mC (.int 1))) (mCons (mVar 2) (mNil))))) (mNil)))) (mNil))))))))
     (mRet (mCall dTuple (mCons (mVar 3) (mNil))))))
def m_turner_aa784 : List D → MH → R D := mFun 5 10
 (mSeq (mAsg 5 (mCall (m_cell_at_2c4cb) (mCons (mVar 0) (mCons (mVar 1) (mNil)))))
 (mSeq (mAsg 6 (mLst (mNil)))
 (mSeq (mFor (mRange1 (mBin dMod (mVar 5) (mBin dAdd (mVar 2) (mC (.int 1))))) (mgName 7)
 (mSeq (mAsg 8 (mCall (m_tape_92891) (mCons (mCall (m_cell_at_2c4cb) (mCons (mVar 0) (mCons (mBin dAdd (mBin dAdd (mVar 1) (mC (.int 1))) (mVar 7)) (mNil)))) (mCons (mC (.int 120)) (mNil)))))
 (mSeq (mAsg 9 (mCall (m_next_fea17) (mCons (mVar 8) (mCons (mVar 4) (mNil)))))
 (mDrop (mMeth isListD dAppend (mVar 6) (mCons (mTup (mCons (mBin dIx (mVar 3) (mBin dMod (mBin dAdd (mBin dFdiv (mVar 5) (mC (.int 16))) (mBin dMul (mC (.int 2)) (mVar 7))) (mC (.int 9)))) (mCons (mCall (m_items_b2406 100) (mCons (mVar 8) (mCons (mVar 9) (mCons (mVar 3) (mNil))))) (mNil)))) (mNil)))))))
 (mRet (mCall dTuple (mCons (mVar 6) (mNil)))))))
def m_for_39fc1 : List D → MH → R D := mFun 2 3
 (mSeq (mFor (mIter (mVar 0)) (mgName 2)
 (mIf (mB (mBin dEq (mBin dIx (mVar 2) (mC (.int 0))) (mVar 1)))
 (mRet (mBin dIx (mVar 2) (mC (.int 1))))
 (mSkip)))
 (mRet (mTup (mCons (mVar 1) (mNil)))))
def m_size_05894 : Nat → List D → MH → R D
 | 0 => fun _ _ => .bad
 | n + 1 => mFun 2 4
    (mSeq (mAsg 2 (mC (.int 0)))
     (mSeq (mFor (mIter (mVar 0)) (mgName 3)
     (mIf (mB (mBin dEq (mVar 3) (mC (.str (Str.ofString "*")))))
     (mAsg 2 (mBin dAdd (mVar 2) (mVar 1)))
     (mAsg 2 (mBin dAdd (mBin dAdd (mVar 2) (mC (.int 1))) (mCall (m_size_05894 n) (mCons (mBin dIx (mVar 3) (mC (.int 1))) (mCons (mVar 1) (mNil))))))))
     (mRet (mVar 2))))
def m_full_cf168 : Nat → List D → MH → R D
 | 0 => fun _ _ => .bad
 | n + 1 => mFun 2 4
    (mSeq (mAsg 2 (mLst (mNil)))
     (mSeq (mFor (mIter (mVar 0)) (mgName 3)
     (mIf (mB (mBin dEq (mVar 3) (mC (.str (Str.ofString "*")))))
     (mDrop (mMeth isListD dExtend (mVar 2) (mCons (mVar 1) (mNil))))
     (mDrop (mMeth isListD dAppend (mVar 2) (mCons (mTup (mCons (mBin dIx (mVar 3) (mC (.int 0))) (mCons (mCall dTuple (mCons (mCall (m_full_cf168 n) (mCons (mBin dIx (mVar 3) (mC (.int 1))) (mCons (mVar 1) (mNil)))) (mNil))) (mNil)))) (mNil))))))
     (mRet (mVar 2))))
def m_same_3d8da : Nat → List D → MH → R D
 | 0 => fun _ _ => .bad
 | n + 1 => mFun 2 4
    (mSeq (mIf (mB (mIsi "tuple" (mVar 1)))
     (mSeq (mIf (mOr (mNot (mB (mIsi "tuple" (mVar 0)))) (mB (mBin dNe (mCall dLen (mCons (mVar 0) (mNil))) (mCall dLen (mCons (mVar 1) (mNil))))))
     (mRet (mC (.bl false)))
     (mSkip))
     (mRet (mCall dAll (mCons (mLc (mZipT (mVar 0) (mVar 1)) (mgTup (mgCons (mgName 2) (mgCons (mgName 3) mgNil))) (mYes) (mCall (m_same_3d8da n) (mCons (mVar 2) (mCons (mVar 3) (mNil)))) [2, 3]) (mNil)))))
     (mSkip))
     (mSeq (mIf (mB (mIsi "str" (mVar 1)))
     (mRet (mAndV (mIsi "str" (mVar 0)) (mBin dEq (mVar 0) (mVar 1))))
     (mSkip))
     (mRet (mAndV (mIsi "int" (mVar 0)) (mAndV (mNotV (mIsi "bool" (mVar 0))) (mBin dEq (mVar 0) (mVar 1)))))))
def m_items_for_2ec27 : List D → MH → R D := mFun 2 3
 (mSeq (mFor (mIter (mVar 0)) (mgName 2)
 (mIf (mB (mBin dEq (mBin dIx (mVar 2) (mC (.int 0))) (mVar 1)))
 (mRet (mBin dIx (mVar 2) (mC (.int 1))))
 (mSkip)))
 (mRet (mC .non)))
def m_filled_size_5412a : Nat → List D → MH → R D
 | 0 => fun _ _ => .bad
 | n + 1 => mFun 2 4
    (mSeq (mAsg 2 (mC (.int 0)))
     (mSeq (mFor (mIter (mVar 0)) (mgName 3)
     (mIf (mB (mBin dEq (mVar 3) (mC (.str (Str.ofString "*")))))
     (mAsg 2 (mBin dAdd (mVar 2) (mVar 1)))
     (mAsg 2 (mBin dAdd (mBin dAdd (mVar 2) (mC (.int 1))) (mCall (m_filled_size_5412a n) (mCons (mBin dIx (mVar 3) (mC (.int 1))) (mCons (mVar 1) (mNil))))))))
     (mRet (mVar 2))))
def m_filled_1058b : Nat → List D → MH → R D
 | 0 => fun _ _ => .bad
 | n + 1 => mFun 2 4
    (mSeq (mAsg 2 (mLst (mNil)))
     (mSeq (mFor (mIter (mVar 0)) (mgName 3)
     (mIf (mB (mBin dEq (mVar 3) (mC (.str (Str.ofString "*")))))
     (mDrop (mMeth isListD dExtend (mVar 2) (mCons (mCall dList (mCons (mVar 1) (mNil))) (mNil))))
     (mDrop (mMeth isListD dAppend (mVar 2) (mCons (mTup (mCons (mBin dIx (mVar 3) (mC (.int 0))) (mCons (mCall (m_filled_1058b n) (mCons (mBin dIx (mVar 3) (mC (.int 1))) (mCons (mVar 1) (mNil)))) (mNil)))) (mNil))))))
     (mRet (mCall dTuple (mCons (mVar 2) (mNil))))))
def m_has_hole_6be3c : Nat → List D → MH → R D
 | 0 => fun _ _ => .bad
 | n + 1 => mFun 1 2
    (mSeq (mFor (mIter (mVar 0)) (mgName 1)
     (mIf (mOr (mB (mBin dEq (mVar 1) (mC (.str (Str.ofString "*"))))) (mB (mCall (m_has_hole_6be3c n) (mCons (mBin dIx (mVar 1) (mC (.int 1))) (mNil)))))
     (mRet (mC (.bl true)))
     (mSkip)))
     (mRet (mC (.bl false))))
end Mi

/-! Dicts with keys (in, get, put, displays of texts); classes of the program: fields, new ones, methods, isinstance; defaults. -/
namespace Mi
open PySem L2 PySem.Spec PyProof.Rows
/-! ### dicts -/
def valD (kvs : List (Key × D)) (k : Key) : Option D := (kvs.find? fun kv => decide (kv.1 = k)).map (·.2)
def putKD (kvs : List (Key × D)) (k : Key) (v : D) : List (Key × D) :=
  if (kvs.any fun kv => decide (kv.1 = k)) = true then kvs.map (fun kv => if kv.1 = k then (kv.1, v) else kv) else kvs ++ [(k, v)]
section
variable {g : G} {H : Hp} {μ : List Addr} {h : MH}
theorem KR.val (k : Key) : ∀ {kv : List (Key × V)} {kvs : List (Key × D)}, KR g H μ kv kvs → (valV kv k = none ∧ valD kvs k = none) ∨ ∃ v d, valV kv k = some v ∧ valD kvs k = some d ∧ VR g H μ v d
  | _, _, .nil => .inl ⟨rfl, rfl⟩
  | _, _, @KR.cons _ _ _ _ k' v d vs ds a b => by
    by_cases e : k' = k
    · refine .inr ⟨v, d, valV_pos e, ?_, a⟩
      simp [valD, List.find?_cons, e]
    · have e2 : valD ((k', d) :: ds) k = valD ds k := by simp [valD, List.find?_cons, e]
      rw [valV_neg (p := (k', v)) e, e2]
      exact KR.val k b
theorem KR.any (k : Key) : ∀ {kv : List (Key × V)} {kvs : List (Key × D)}, KR g H μ kv kvs → (kv.any fun p => decide (p.1 = k)) = kvs.any fun p => decide (p.1 = k)
  | _, _, .nil => rfl
  | _, _, .cons a b => by rw [List.any_cons, List.any_cons, KR.any k b]
theorem KR.repl (k : Key) {y : V} {u : D} (r : VR g H μ y u) : ∀ {kv : List (Key × V)} {kvs : List (Key × D)}, KR g H μ kv kvs → KR g H μ (kv.map fun p => if p.1 = k then (p.1, y) else p) (kvs.map fun p => if p.1 = k then (p.1, u) else p)
  | _, _, .nil => .nil
  | _, _, @KR.cons _ _ _ _ k' v d vs ds a b => by
    rw [List.map_cons, List.map_cons]
    by_cases e : k' = k
    · simp only [e, if_true]
      exact .cons r (KR.repl k r b)
    · simp only [e, if_false]
      exact .cons a (KR.repl k r b)
theorem KR.snoc {κ : Type} {k : κ} {y : V} {u : D} (r : VR g H μ y u) : ∀ {kv : List (κ × V)} {kvs : List (κ × D)}, KR g H μ kv kvs → KR g H μ (kv ++ [(k, y)]) (kvs ++ [(k, u)])
  | _, _, .nil => .cons r .nil
  | _, _, .cons a b => .cons a (KR.snoc r b)
theorem KR.put (k : Key) {y : V} {u : D} (r : VR g H μ y u) {kv : List (Key × V)} {kvs : List (Key × D)} (h : KR g H μ kv kvs) : KR g H μ (putK kv k y) (putKD kvs k u) := by
  unfold putK putKD
  rw [h.any k]
  split
  · exact h.repl k r
  · exact h.snoc r
theorem KR.len {κ : Type} : ∀ {kv : List (κ × V)} {kvs : List (κ × D)}, KR g H μ kv kvs → kv.length = kvs.length
  | _, _, .nil => rfl
  | _, _, .cons _ b => by rw [List.length_cons, List.length_cons, KR.len b]
def getK (h : MH) (x : D) : Option (List (Key × D)) := match x with
  | .ref i => match h[i]? with
    | some (.dK l) => some l
    | _ => none
  | _ => none
end
def dDIn (a b : D) (h : MH) : R D := match keyD a, getK h b with
  | some k, some l => .ok (.bl (valD l k).isSome) h
  | _, _ => .bad
def dDNotIn (a b : D) (h : MH) : R D := match keyD a, getK h b with
  | some k, some l => .ok (.bl (!(valD l k).isSome)) h
  | _, _ => .bad
def dDIx (a b : D) (h : MH) : R D := match getK h a, keyD b with
  | some l, some k => match valD l k with
    | some v => .ok v h
    | none => .bad
  | _, _ => .bad
def dDSet (x y d : D) (h : MH) : R Unit := match x, keyD y, getK h x with
  | .ref i, some k, some l => if l.length < 1000000 then .ok () (h.set i (.dK (putKD l k d))) else .bad
  | _, _, _ => .bad
def mDSet (o i e : ME) : MS := fun ρ h => (e ρ h).out ρ fun d h1 => (o ρ h1).out ρ fun x h2 => (i ρ h2).out ρ fun y h3 => (dDSet x y d h3).out ρ fun _ h4 => .nx ρ h4
def dDLen : List D → MH → R D
  | [x], h => match getK h x with
    | some l => .ok (.int l.length) h
    | none => .bad
  | _, _ => .bad
def rDIn : R2 := fun x y H Q => ∃ a k kvs, x = kV k ∧ y = .ref a ∧ H a = some (.dK kvs) ∧ Q (.bl (valV kvs k).isSome) H
def rDNotIn : R2 := fun x y H Q => ∃ a k kvs, x = kV k ∧ y = .ref a ∧ H a = some (.dK kvs) ∧ Q (.bl (!(valV kvs k).isSome)) H
def rSetD : V → V → V → Hp → (Hp → Prop) → Prop := fun o i v H Q => ∃ a k kvs, o = .ref a ∧ i = kV k ∧ H a = some (.dK kvs) ∧ kvs.length < sizeLine ∧ Q (upd H a (.dK (putK kvs k v)))
section
variable {X : Cx} {g : G} {W : WX}
variable {o i e : Expr} {mo mi me : ME} {pos p2 : Pos}
end
/-! ### displays of texts -/
def mergeD (l : List (Str × Str)) (acc : List (Key × D)) : List (Key × D) := match l with
  | [] => acc
  | p :: r => mergeD r (putKD acc (.inr p.1) (.str p.2))
def mDictC (l : List (Str × Str)) : ME := fun _ h => .ok (.ref h.length) (h ++ [.dK (mergeD l [])])
section
variable {X : Cx} {g : G} {W : WX} {pos : Pos}
def trsC (g : G) (W : WX) (l : List (Str × Str)) : List (TE × TE) := l.map fun p => (tE g W (mC (.str p.1)), tE g W (mC (.str p.2)))
end
/-! ### classes of the program -/
def insOf (h : MH) (x : D) : Option (Nat × Str × List (Str × D)) := match x with
  | .ref i => match h[i]? with
    | some (.ins c fs) => some (i, c, fs)
    | _ => none
  | _ => none
def putFD (f : Str) (v : D) : List (Str × D) → List (Str × D)
  | [] => [(f, v)]
  | (g, x) :: r => if g = f then (g, v) :: r else (g, x) :: putFD f v r
def mFld (cs : List Str) (f : Str) (a : ME) : ME := fun ρ h => (a ρ h).bind fun x h1 => match insOf h1 x with
  | some (_, c, fs) => if c ∈ cs then match fs.lookup f with
    | some v => .ok v h1
    | none => .bad else .bad
  | none => .bad
def mSetFld (cs : List Str) (f : Str) (o e : ME) : MS := fun ρ h => (e ρ h).out ρ fun d h1 => (o ρ h1).out ρ fun x h2 => match insOf h2 x with
  | some (i, c, fs) => if c ∈ cs ∧ fs.length < 1000 then .nx ρ (h2.set i (.ins c (putFD f d fs))) else .bad
  | none => .bad
def mNew (c : Str) (F : List D → MH → R D) (r : MA) : ME := fun ρ h => (r ρ h).bind fun xs h1 => (F (.ref h1.length :: xs) (h1 ++ [.ins c []])).bind fun y h2 => match y with
  | .non => .ok (.ref h1.length) h2
  | _ => .bad
abbrev MTab := List (Str × (List D → MH → R D))
def mMethI (m : Str) (tab : MTab) (o : ME) (r : MA) : ME := fun ρ h => (o ρ h).bind fun x h1 => match insOf h1 x with
  | some (_, c, fs) => match tab.lookup c with
    | some F => if fs.lookup m = none then (r ρ h1).bind fun xs h2 => F (x :: xs) h2 else .bad
    | none => .bad
  | none => .bad
def mIsC (tab : List (Str × Bool)) (a : ME) : ME := fun ρ h => (a ρ h).bind fun x h1 => match insOf h1 x with
  | some (_, c, _) => match tab.lookup c with
    | some b => .ok (.bl b) h1
    | none => .bad
  | none => .bad
section
variable {g : G} {H : Hp} {μ : List Addr} {h : MH}
theorem KR.lookup (f : Str) : ∀ {fv : List (Str × V)} {fs : List (Str × D)}, KR g H μ fv fs → (fv.lookup f = none ∧ fs.lookup f = none) ∨ ∃ v d, fv.lookup f = some v ∧ fs.lookup f = some d ∧ VR g H μ v d
  | _, _, .nil => .inl ⟨rfl, rfl⟩
  | _, _, @KR.cons _ _ _ _ k v d vs ds a b => by
    rw [List.lookup_cons, List.lookup_cons]
    cases (f == k) with
    | true => exact .inr ⟨v, d, rfl, rfl, a⟩
    | false => exact KR.lookup f b
end
/-- classes with a field: none of their classes has its name -/
def CT (K : PySem.W.Frag) (f : Str) (cs : List Str) : Prop := ∀ c ∈ cs, ∀ C, cmOf K c = some C → Cls K C ∧ NoAttr K C f
def clsB (K : PySem.W.Frag) (C : Addr) : Bool := PySem.W.plainGet K C Str.empty && (PySem.W.hasDictIn K C && (PySem.W.plainOver K C && decide (PySem.W.findIn K (.ref C) "__setattr__" = some (some (.builtin "object.__setattr__")))))
def ctB (K : PySem.W.Frag) (f : Str) (cs : List Str) : Bool := cs.all fun c => match cmOf K c with
  | some C => clsB K C && decide (PySem.W.findIn K (.ref C) f = some none)
  | none => true
/-- isinstance of own classes -/
structure ClsI (K : PySem.W.Frag) (C : Addr) : Prop where
  cl : Cls K C
  ha : PySem.W.findIn K (.ref C) "__class__" = some (some (.builtin "object.__class__"))
  hn : PySem.W.specialIn K (.builtin "object.__class__") "__get__" = some (some (.builtin "getset_descriptor.__get__"))
  ht : PySem.W.takesIn K (.builtin "object.__class__") = some true
  hm : PySem.W.mroIn K C (.type "object") = some true
def clsIB (K : PySem.W.Frag) (C : Addr) : Bool := clsB K C && (decide (PySem.W.findIn K (.ref C) "__class__" = some (some (.builtin "object.__class__"))) &&
  (decide (PySem.W.specialIn K (.builtin "object.__class__") "__get__" = some (some (.builtin "getset_descriptor.__get__"))) && (decide (PySem.W.takesIn K (.builtin "object.__class__") = some true) && decide (PySem.W.mroIn K C (.type "object") = some true))))
def IsC (K : PySem.W.Frag) (mg : Str → Option Value) (y : Str) (l : List (Str × Bool)) : Prop := ∃ D, mg y = some (.ref D) ∧ ∀ c b C, l.lookup c = some b → cmOf K c = some C → ClsI K C ∧ PySem.W.kitOne K (.ref C) (.ref D) = some b
def isCB (K : PySem.W.Frag) (y : Str) (l : List (Str × Bool)) : Bool := match cmOf K y with
  | some D => l.all fun p => match cmOf K p.1 with
    | some C => clsIB K C && (PySem.W.kitOne K (.ref C) (.ref D) == some p.2)
    | none => true
  | none => false
/-- a method of a class -/
def MtOf (P : Program) (w : World) (K : PySem.W.Frag) (mg : Str → Option Value) (base : Heap) (c m : Str) (k : Nat) (F : List D → MH → R D) : Prop :=
  ∀ C, cmOf K c = some C → ∃ f fd ps, Cls K C ∧ Meth K C m f ∧ FnOk P w K mg base (L2.CX P w) k f fd ps (spM (gOf w K) F) ∧ Binds K fd ps []
def Mt (P : Program) (w : World) (K : PySem.W.Frag) (mg : Str → Option Value) (base : Heap) (m : Str) (k : Nat) (tab : MTab) : Prop := ∀ c F, tab.lookup c = some F → MtOf P w K mg base c m k F
/-- a class that is made -/
def MkOf (P : Program) (w : World) (K : PySem.W.Frag) (mg : Str → Option Value) (base : Heap) (c : Str) (k : Nat) (F : List D → MH → R D) : Prop :=
  ∃ C f fd ps, cmOf K c = some C ∧ mg c = some (.ref C) ∧ Mk K C f ∧ FnOk P w K mg base (L2.CX P w) k f fd ps (spM (gOf w K) F) ∧ Binds K fd ps []
section
variable {P : Program} {w : World} {K : PySem.W.Frag} {mg : Str → Option Value} {base : Heap} {m : Str} {k : Nat}
theorem MtOf.mono {c : Str} {F : List D → MH → R D} {j : Nat} (e : MtOf P w K mg base c m j F) (h : j ≤ k) : MtOf P w K mg base c m k F := fun C hC => by
  obtain ⟨f, fd, ps, h2, h3, h4, h5⟩ := e C hC
  exact ⟨f, fd, ps, h2, h3, h4.mono h, h5⟩
theorem Mt.mono {tab : MTab} {j : Nat} (e : Mt P w K mg base m j tab) (h : j ≤ k) : Mt P w K mg base m k tab := fun c F q => (e c F q).mono h
end
section
variable {X : Cx} {W : WX} {a e o : Expr} {es : List Expr} {ma me mo : ME} {mr : MA} {p p2 pos apos : Pos} {f m : Str} {cs : List Str}
end
end Mi

/-! Defs of classes by their texts; defs with defaults. -/
namespace Mi
open PySem L2 PySem.Spec PyProof.Rows
/-- a method as it stands -/
def Dm (K : PySem.W.Frag) (c m qual : Str) (st : Stmt) (ps : List Str) : Prop := ∃ C f fd, cmOf K c = some C ∧ Cls K C ∧ Meth K C m f ∧ Fun K m qual st f fd ∧ Binds K fd ps []
/-- an __init__ as it stands -/
def Di (K : PySem.W.Frag) (mg : Str → Option Value) (c qual : Str) (st : Stmt) (ps : List Str) : Prop := ∃ C f fd, cmOf K c = some C ∧ mg c = some (.ref C) ∧ Mk K C f ∧ Fun K "__init__" qual st f fd ∧ Binds K fd ps []
section
variable {P : Program} {w : World} {K : PySem.W.Frag} {mg : Str → Option Value} {base : Heap} {h : Heap}
theorem MkOf.mono {c : Str} {F : List D → MH → R D} {j k : Nat} (e : MkOf P w K mg base c j F) (h : j ≤ k) : MkOf P w K mg base c k F := by
  obtain ⟨C, f, fd, ps, h1, h2, h3, h4, h5⟩ := e
  exact ⟨C, f, fd, ps, h1, h2, h3, h4.mono h, h5⟩
end
section
variable {P : Program} {w : World} {K : PySem.W.Frag} {mg : Str → Option Value} {base : Heap}
end
/-! ### defaults -/
def vOf : D → V
  | .non => .non | .bl b => .bl b | .int i => .int i | .str x => .str x | _ => .non
def DfD (K : PySem.W.Frag) (mg : Str → Option Value) (x : Str) (st : Stmt) (ps : List Str) (ds : List D) : Prop := ∃ f fd, FunD K x x (defArgs st) (defBody st) (defScope st) (ds.map vOf) [] f fd ∧ mg x = some (.ref f) ∧ ∀ j, j ≤ ds.length → ∃ uds, Vals ((ds.map vOf).drop j) uds ∧ Binds K fd ps uds
def CalD (P : Program) (w : World) (K : PySem.W.Frag) (mg : Str → Option Value) (base : Heap) (x : Str) (k : Nat) (F : List D → MH → R D) (ds : List D) : Prop :=
  ∃ f fd ps, FnOk P w K mg base (L2.CX P w) k f fd ps (spM (gOf w K) F) ∧ mg x = some (.ref f) ∧ PySem.W.keepIn K (.ref f) = true ∧ ∀ j, j ≤ ds.length → ∃ uds, Vals ((ds.map vOf).drop j) uds ∧ Binds K fd ps uds
def mCallD (F : List D → MH → R D) (ds : List D) (r : MA) : ME := fun ρ h => (r ρ h).bind fun xs h1 => F (xs ++ ds) h1
section
variable {P : Program} {w : World} {K : PySem.W.Frag} {mg : Str → Option Value} {base : Heap}
end
section
variable {X : Cx} {W : WX} {e : Expr} {es : List Expr} {mr : MA} {p pos : Pos}
end
end Mi

/-! The calculus for classes, dicts, defaults; cells of one's own of any kind. -/
namespace Mi
open PySem L2
/-! ### cells of any kind -/
abbrev CL := List (Nat × MO)
structure Cel (h0 h : MH) (L : CL) : Prop where
  pre : h0 <+: h
  cell : ∀ p ∈ L, h0.length ≤ p.1 ∧ h[p.1]? = some p.2
  nd : (L.map (·.1)).Nodup
section
variable {h0 h h' h1 : MH} {L M : CL} {i : Nat} {l l' : MO}
theorem Cel.nil (h : MH) : Cel h h [] := ⟨List.prefix_rfl, fun p hp => by simp at hp, List.nodup_nil⟩
theorem Cel.ext (o : Cel h0 h L) (p : h <+: h') : Cel h0 h' L := ⟨o.pre.trans p, fun q hq => ⟨(o.cell q hq).1, pre_get p (o.cell q hq).2⟩, o.nd⟩
theorem Cel.lt (o : Cel h0 h L) {p : Nat × MO} (hp : p ∈ L) : p.1 < h.length := (List.getElem?_eq_some_iff.mp (o.cell p hp).2).1
theorem Cel.add (o : Cel h0 h L) (hi : h0.length ≤ i) (e : h[i]? = some l) (n : ∀ p ∈ L, p.1 ≠ i) : Cel h0 h ((i, l) :: L) :=
  ⟨o.pre, fun q hq => by
    rcases List.mem_cons.mp hq with rfl | hq
    · exact ⟨hi, e⟩
    · exact o.cell q hq, List.nodup_cons.mpr ⟨fun hm => by
      obtain ⟨p, hp, rfl⟩ := List.mem_map.mp hm
      exact n p hp rfl, o.nd⟩⟩
theorem Cel.alloc (o : Cel h0 h L) (x : MO) : Cel h0 (h ++ [x]) ((h.length, x) :: L) :=
  (o.ext (List.prefix_append _ _)).add (o.pre.length_le) (by simp) fun p hp => Nat.ne_of_lt (o.lt hp)
theorem Cel.at (o : Cel h0 h L) (n : Nat) (e : L[n]? = some (i, l)) : h[i]? = some l := (o.cell _ (List.mem_of_getElem? e)).2
theorem Cel.atL {l : List D} (o : Cel h0 h L) (n : Nat) (e : L[n]? = some (i, .lst l)) : getL h i = some l := getL_of (o.at n e)
theorem Cel.isL {l : List D} (o : Cel h0 h L) (n : Nat) (e : L[n]? = some (i, .lst l)) : isListD (.ref i) h = true := by rw [isListD_ref, o.atL n e]; rfl
theorem Cel.setAt (o : Cel h0 h L) (n : Nat) (e : L[n]? = some (i, l)) (l' : MO) : Cel h0 (h.set i l') (L.set n (i, l')) := by
  have hn : n < L.length := (List.getElem?_eq_some_iff.mp e).1
  have en : L[n] = (i, l) := (List.getElem?_eq_some_iff.mp e).2
  have hi : i < h.length := o.lt (List.mem_of_getElem? e)
  have h0i : h0.length ≤ i := (o.cell _ (List.mem_of_getElem? e)).1
  have em : (L.set n (i, l')).map (·.1) = L.map (·.1) := by
    rw [List.map_set]
    refine List.ext_getElem (by simp) fun k h1 h2 => ?_
    rw [List.getElem_set]
    split
    · rename_i q
      subst q
      rw [List.getElem_map, en]
    · rfl
  refine ⟨?_, fun q hq => ?_, by rw [em]; exact o.nd⟩
  · obtain ⟨t, rfl⟩ := o.pre
    rw [List.set_append_right _ _ h0i]
    exact List.prefix_append _ _
  · obtain ⟨k, hk, e2⟩ := List.mem_iff_getElem.mp hq
    rw [List.getElem_set] at e2
    split at e2
    · subst e2
      exact ⟨h0i, by simp [hi]⟩
    · rename_i hne
      have hk' : k < L.length := by simpa using hk
      have hm : q ∈ L := e2 ▸ List.getElem_mem hk'
      refine ⟨(o.cell q hm).1, ?_⟩
      rw [List.getElem?_set_ne]
      · exact (o.cell q hm).2
      · intro z
        have h1 : (L.map (·.1))[n]'(by simpa using hn) = (L.map (·.1))[k]'(by simpa using hk') := by
          rw [List.getElem_map, List.getElem_map, en, e2]
          exact z
        exact hne ((List.getElem_inj o.nd).mp h1)
theorem Cel.trans (o : Cel h0 h L) (o' : Cel h h' M) : Cel h0 h' (M ++ L) := by
  have o2 := o.ext o'.pre
  refine ⟨o2.pre, fun q hq => ?_, ?_⟩
  · rcases List.mem_append.mp hq with hq | hq
    · exact ⟨Nat.le_trans o.pre.length_le (o'.cell q hq).1, (o'.cell q hq).2⟩
    · exact o2.cell q hq
  · rw [List.map_append, List.nodup_append]
    refine ⟨o'.nd, o.nd, fun a ha b hb => ?_⟩
    obtain ⟨p, hp, rfl⟩ := List.mem_map.mp ha
    obtain ⟨q, hq, rfl⟩ := List.mem_map.mp hb
    have h1 := (o'.cell p hp).1
    have h2 := o.lt hq
    omega
theorem Cel.sub (o : Cel h0 h L) (s : M.Sublist L) : Cel h0 h M := ⟨o.pre, fun p hp => o.cell p (s.subset hp), (s.map _).nodup o.nd⟩
theorem Cel.tail {p : Nat × MO} (o : Cel h0 h (p :: L)) : Cel h0 h L := o.sub (List.sublist_cons_self _ _)
theorem Cel.none (o : Cel h0 h L) : Cel h0 h [] := o.sub (List.nil_sublist _)
/-! ### rules -/
variable {Q : D → MH → Prop} {E : XE} {a b o : ME} {r : MA} {ρ : Slots} {N : SP} {T : D → MH → Prop} {B C : SP} {X : SX}
def fldK (cs : List Str) (f : Str) (x : D) (h1 : MH) : R D := match insOf h1 x with
  | some (_, c, fs) => if c ∈ cs then match fs.lookup f with
    | some v => .ok v h1
    | none => .bad else .bad
  | none => .bad
def setFldK (cs : List Str) (f : Str) (d x : D) (ρ : Slots) (h2 : MH) : Out := match insOf h2 x with
  | some (i, c, fs) => if c ∈ cs ∧ fs.length < 1000 then .nx ρ (h2.set i (.ins c (putFD f d fs))) else .bad
  | none => .bad
def methK (m : Str) (tab : MTab) (r : MA) (ρ : Slots) (x : D) (h1 : MH) : R D := match insOf h1 x with
  | some (_, c, fs) => match tab.lookup c with
    | some F => if fs.lookup m = none then (r ρ h1).bind fun xs h2 => F (x :: xs) h2 else .bad
    | none => .bad
  | none => .bad
def isCK (tab : List (Str × Bool)) (x : D) (h1 : MH) : R D := match insOf h1 x with
  | some (_, c, _) => match tab.lookup c with
    | some b => .ok (.bl b) h1
    | none => .bad
  | none => .bad
end
end Mi

/-! sorted(d) of a dict whose keys are texts; list.clear. -/
namespace Mi
open PySem L2 PySem.Spec PyProof.Rows
def rSortK : List V → Hp → VK → Prop := fun xs H Q => ∃ (a : Addr) (kvs : List (Key × V)) (ys : List Str), xs = [V.ref a] ∧ H a = some (.dK kvs) ∧ kvs.map (·.1) = ys.map Sum.inr ∧ ∀ p, H p = none → Q (.ref p) (upd H p (.lst ((sortS ys).map V.str)))
/-- the keys, all of them texts -/
def strKeys : List (Key × D) → Option (List Str)
  | [] => some []
  | (.inr x, _) :: l => (strKeys l).map (x :: ·)
  | (.inl _, _) :: _ => none
def dSortK : List D → MH → R D
  | [x], h => match getK h x with
    | some l => match strKeys l with
      | some ys => .ok (.ref h.length) (h ++ [.lst ((sortS ys).map .str)])
      | none => .bad
    | none => .bad
  | _, _ => .bad
def dClear : D → List D → MH → R D
  | .ref i, [], h => match h[i]? with
    | some (.lst _) => .ok .non (h.set i (.lst []))
    | _ => .bad
  | _, _, _ => .bad
/-! the calculus -/
end Mi

/-! list.pop(0), list.insert. -/
namespace Mi
open PySem L2 PySem.Spec PyProof.Rows
def dPop0 : D → List D → MH → R D
  | .ref i, [.int 0], h => match h[i]? with
    | some (.lst (d :: l)) => .ok d (h.set i (.lst l))
    | _ => .bad
  | _, _, _ => .bad
/-- list.insert -/
def insD (l : List D) (k : Nat) (d : D) : List D := l.take k ++ d :: l.drop k
end Mi

/-! int(text). -/
namespace Mi
open PySem L2
def dIntS : List D → MH → R D
  | [.str x], h => match PySem.intText? x with
    | some n => if x.length ≤ 640 then .ok (.int n) h else .bad
    | none => .bad
  | _, _ => .bad
section
variable {g : G} {X : Cx}
end
end Mi

/-! Sets of ints and texts: set(xs) of a list, sorted of it, its length. -/
namespace Mi
open PySem L2 PySem.Spec PyProof.Rows
/-! ### what was met, each once -/
instance memK (k : Key) (L : List Key) : Decidable (k ∈ L) := decidable_of_iff ((L.any fun j => decide (j = k)) = true) (by
  rw [List.any_eq_true]
  exact ⟨fun ⟨x, h1, h2⟩ => of_decide_eq_true h2 ▸ h1, fun h => ⟨k, h, decide_eq_true rfl⟩⟩)
def onceK (l : List Key) : List Key := l.foldl (fun L k => if k ∈ L then L else L ++ [k]) []
/-! ### the set in the heap -/
def kyOf (e : Int × Value) : Key := match e.2 with
  | .int k _ => .inl k
  | .str x _ => .inr x
  | _ => .inl 0
def GdE (w : World) (e : Int × Value) : Prop := ∃ k, keyIs k e.2 = true ∧ e.1 = keyH w k
structure SetX (w : World) (h : Heap) (a : Addr) (L : List Key) (o : Obj) (es : Array (Int × Value)) (ep : Nat) (t : SetTable) : Prop where
  ob : h.get? a = some o
  ex : o.ExactSet
  da : o.data = .set es ep t
  gd : ∀ e ∈ es.toList, GdE w e
  pm : (es.toList.map kyOf).Perm L
  nd : L.Nodup
  sz : L.length < scanBound
  ft : t.fits es.size = true
  rs : Ris t.place.toList
  ld : w.params.followText "set-order" = true ∨ t.led = true
def SetL (w : World) (h : Heap) (a : Addr) (L : List Key) : Prop := ∃ o es ep t, SetX w h a L o es ep t
section
variable {P : Program} {w : World} {A : Around} {E : Value → Shared → Prop} {s : Shared} {a : Addr} {L : List Key}
theorem SetX.el {h : Heap} {o : Obj} {es : Array (Int × Value)} {ep : Nat} {t : SetTable} (R : SetX w h a L o es ep t) : ElemsOf (mixKind P w) es.toList := fun e he => by
  obtain ⟨k, h1, h2⟩ := R.gd e he
  refine ⟨⟨k, h1, h2⟩, ?_⟩
  rcases keyIs_shape h1 with ⟨j, t, rfl, q⟩ | ⟨x, t, rfl, q⟩ <;> rw [q] <;> rfl
theorem SetX.len {h : Heap} {o : Obj} {es : Array (Int × Value)} {ep : Nat} {t : SetTable} (R : SetX w h a L o es ep t) : es.size = L.length := by
  rw [← R.pm.length_eq, List.length_map, Array.length_toList]
theorem SetL.keep {h h' : Heap} (R : SetL w h a L) (k : ∀ o, h.get? a = some o → h'.get? a = some o) : SetL w h' a L := by
  obtain ⟨o, es, ep, t, r⟩ := R
  exact ⟨o, es, ep, t, { r with ob := k o r.ob }⟩
end
/-! ### set(xs) -/
section
variable {prog : Program} {w : World} {A : Around} {R : Result → Shared → Prop} {I : Addr} {fp wr : List Addr} {G : Array GenState → Array GenState → Prop} {n : Nat} {Pv : Nat → Value → Prop} {St : Nat → Shared → Prop}
end
def emptyS (w : World) : Obj := { cls := .type "set", dict := none, data := .set #[] 0 (.fresh 0 0 (!w.params.followText "set-order")) }
section
variable {P : Program} {w : World} {A : Around} {E : Value → Shared → Prop} {s : Shared}
set_option maxHeartbeats 3200000 in
end
/-! ### the mirror -/
def keysD : List D → Option (List Key)
  | [] => some []
  | d :: l => match keyD d, keysD l with
    | some k, some r => some (k :: r)
    | _, _ => none
def mLenSet (a : ME) : ME := fun ρ h => (a ρ h).bind fun x h1 => match x with
  | .ref i => match (getL h1 i).bind keysD with
    | some ks => if ks.length < 4000 then .ok (.int (onceK ks).length) h1 else .bad
    | none => .bad
  | _ => .bad
def mSortSet (a : ME) : ME := fun ρ h => (a ρ h).bind fun x h1 => match x with
  | .ref i => match (getL h1 i).bind allStr with
    | some ys => if ys.length < 4000 then .ok (.ref h1.length) (h1 ++ [.lst ((sortS (ys.eraseDups)).map .str)]) else .bad
    | none => .bad
  | _ => .bad
section
variable {g : G} {H : Hp} {μ : List Addr}
end
section
variable {X : Cx} {g : G} {W : WX} {ma : ME} {a : Expr} {p p2 q pos : Pos}
end
/-! ### as calls -/
def dLenSet : List D → MH → R D
  | [x], h1 => match x with
    | .ref i => match (getL h1 i).bind keysD with
      | some ks => if ks.length < 4000 then .ok (.int (onceK ks).length) h1 else .bad
      | none => .bad
    | _ => .bad
  | _, _ => .bad
def dSortSet : List D → MH → R D
  | [x], h1 => match x with
    | .ref i => match (getL h1 i).bind allStr with
      | some ys => if ys.length < 4000 then .ok (.ref h1.length) (h1 ++ [.lst ((sortS (ys.eraseDups)).map .str)]) else .bad
      | none => .bad
    | _ => .bad
  | _, _ => .bad
section
variable {X : Cx} {g : G} {W : WX} {ma : ME} {a : Expr} {p p2 q pos : Pos}
end
end Mi

/-! list(d.values()). -/
namespace Mi
open PySem L2 PySem.Spec PyProof.Rows
def mVals (a : ME) : ME := fun ρ h => (a ρ h).bind fun x h1 => match getK h1 x with
  | some l => .ok (.ref h1.length) (h1 ++ [.lst (l.map (·.2))])
  | none => .bad
section
variable {X : Cx} {g : G} {W : WX} {ma : ME} {a : Expr} {p apos q pos : Pos}
end
def dVals : List D → MH → R D
  | [x], h1 => match getK h1 x with
    | some l => .ok (.ref h1.length) (h1 ++ [.lst (l.map (·.2))])
    | none => .bad
  | _, _ => .bad
section
variable {X : Cx} {g : G} {W : WX} {ma : ME} {a : Expr} {p apos q pos : Pos}
end
/-! ### l.index(x), items of any depth -/
def dLIdx : D → List D → MH → R D
  | .ref i, [y], h => match pyOf 60 h y, pyOf 60 h (.ref i) with
    | some d, some (.list es) => if SeqAt.shaped (.list es) = true ∧ SeqAt.shaped d = true then match es.findIdx? fun z => PyData.eqv z d with
      | some j => .ok (.int j) h
      | none => .bad else .bad
    | _, _ => .bad
  | _, _, _ => .bad
end Mi

/-! Dicts whose keys are tuples of whole numbers, texts, None, truths and such tuples: in, not in, d[k], d[k] = v, dict(pairs). -/
namespace Mi
open PySem L2 PySem.Spec PyProof.Rows
/-! ### keys -/
mutual
def NkV (K : PySem.W.Frag) (H : Hp) : NestedKey → V → Prop
  | .none, v => v = .non
  | .num i, v => v = .int i ∨ ∃ b, v = .bl b ∧ i = (if b = true then 1 else 0)
  | .text x, v => v = .str x
  | .tup ks, v => ∃ p xs, v = .ref p ∧ SqT K H p xs ∧ NkVs K H ks xs
def NkVs (K : PySem.W.Frag) (H : Hp) : List NestedKey → List V → Prop
  | [], vs => vs = []
  | k :: ks, vs => ∃ v r, vs = v :: r ∧ NkV K H k v ∧ NkVs K H ks r
end
mutual
theorem nkv_of {g : G} {H : Hp} {μ : List Addr} : ∀ (d : D) (v : V) (k : NestedKey), VR g H μ v d → nkD d = some k → NkV g.K H k v
  | .non, v, k, a, e => by cases a; cases e; exact rfl
  | .bl b, v, k, a, e => by cases a; cases e; exact .inr ⟨b, rfl, rfl⟩
  | .int i, v, k, a, e => by cases a; cases e; exact .inl rfl
  | .str x, v, k, a, e => by cases a; cases e; exact rfl
  | .tup l, v, k, a, e => by
    cases a with
    | tup hs vs =>
      simp only [nkD, Option.map_eq_some_iff] at e
      obtain ⟨ks, e, rfl⟩ := e
      exact ⟨_, _, rfl, hs.sq, nkvs_of l _ ks vs e⟩
  | .ref _, v, k, a, e => by cases e
  | .xo _ _ _, v, k, a, e => by cases e
theorem nkvs_of {g : G} {H : Hp} {μ : List Addr} : ∀ (l : List D) (vs : List V) (ks : List NestedKey), VRs g H μ vs l → nkDs l = some ks → NkVs g.K H ks vs
  | [], vs, ks, a, e => by cases a; cases e; exact rfl
  | d :: l, vs, ks, a, e => by
    cases a with
    | cons a b =>
      unfold nkDs at e
      split at e
      · rename_i k r e1 e2
        cases e
        exact ⟨_, _, rfl, nkv_of d _ k a e1, nkvs_of l _ r b e2⟩
      · cases e
end
section
variable {X : Cx} {pins : List (Addr × Obj)} {σ : L2.St} {H : Hp} {s : Shared}
end
/-! ### the dict in the heap -/
abbrev NE := List (NestedKey × Addr × Value)
def NKeys (K : PySem.W.Frag) (H : Hp) (xs : NE) : Prop := ∀ e ∈ xs, NkV K H e.1 (.ref e.2.1) ∧ e.1.depth ≤ 8
/-- a dict with such keys, or an empty one -/
def NDct (w : World) (H : Hp) (p : Addr) (xs : NE) : Prop := H p = some (DN w p xs) ∨ (H p = some (.dK []) ∧ xs = [])
section
variable {X : Cx} {pins : List (Addr × Obj)} {σ : L2.St} {H : Hp} {s : Shared} {p : Addr} {xs : NE}
end
def rNIn (K : PySem.W.Frag) (w : World) : R2 := fun x y H Q => ∃ a p k xs, x = .ref a ∧ y = .ref p ∧ NkV K H k (.ref a) ∧ k.depth ≤ 8 ∧ NDct w H p xs ∧ NKeys K H xs ∧ Q (.bl (atKey xs k).isSome) H
def rNNotIn (K : PySem.W.Frag) (w : World) : R2 := fun x y H Q => ∃ a p k xs, x = .ref a ∧ y = .ref p ∧ NkV K H k (.ref a) ∧ k.depth ≤ 8 ∧ NDct w H p xs ∧ NKeys K H xs ∧ Q (.bl (!(atKey xs k).isSome)) H
def rNIx (K : PySem.W.Frag) (w : World) : R2 := fun x y H Q => ∃ a p k xs c u v, y = .ref a ∧ x = .ref p ∧ NkV K H k (.ref a) ∧ k.depth ≤ 8 ∧ NDct w H p xs ∧ NKeys K H xs ∧ atKey xs k = some (c, u) ∧ RelV v u ∧ Q v H
def rNSet (K : PySem.W.Frag) (w : World) : V → V → V → Hp → (Hp → Prop) → Prop := fun o i v H Q => ∃ a p k xs, o = .ref p ∧ i = .ref a ∧ NkV K H k (.ref a) ∧ k.depth ≤ 8 ∧ NDct w H p xs ∧ NKeys K H xs ∧ xs.length < sizeLine ∧
  ∀ u, RelV v u → Q (upd H p (DN w p (storedH xs k a u)))
section
variable {X : Cx}
end
/-! ### the mirror -/
def nkT (d : D) : Option NestedKey := match d with
  | .tup l => match nkD (.tup l) with
    | some k => if k.depth ≤ 8 then some k else none
    | none => none
  | _ => none
def getN (h : MH) (x : D) : Option (List (NestedKey × D)) := match x with
  | .ref i => match h[i]? with
    | some (.dN l) => some l
    | some (.dK []) => some []
    | _ => none
  | _ => none
def valN (kvs : List (NestedKey × D)) (k : NestedKey) : Option D := (kvs.find? fun x => decide (x.1 = k)).map (·.2)
def putN (kvs : List (NestedKey × D)) (k : NestedKey) (d : D) : List (NestedKey × D) :=
  if (valN kvs k).isSome = true then kvs.map (fun x => if x.1 = k then (x.1, d) else x) else kvs ++ [(k, d)]
section
variable {g : G} {H : Hp} {μ : List Addr} {h : MH}
theorem NR.keys : ∀ {xs : NE} {kvs : List (NestedKey × D)}, NR g H μ xs kvs → NKeys g.K H xs
  | _, _, .nil => fun e he => by simp at he
  | _, _, .cons a e l r v b => fun x hx => by
    rcases List.mem_cons.mp hx with rfl | hx
    · exact ⟨nkv_of _ _ _ a e, l⟩
    · exact NR.keys b x hx
theorem NR.val (k : NestedKey) : ∀ {xs : NE} {kvs : List (NestedKey × D)}, NR g H μ xs kvs → (atKey xs k = none ∧ valN kvs k = none) ∨ ∃ a u v d, atKey xs k = some (a, u) ∧ valN kvs k = some d ∧ RelV v u ∧ VR g H μ v d
  | _, _, .nil => .inl ⟨rfl, rfl⟩
  | _, _, @NR.cons _ _ _ k' a u e d v xs ds va ek l r vd b => by
    by_cases c : k' = k
    · refine .inr ⟨a, u, v, d, ?_, ?_, r, vd⟩
      · simp [atKey, List.find?_cons, c]
      · simp [valN, List.find?_cons, c]
    · have e1 : atKey ((k', a, u) :: xs) k = atKey xs k := by simp [atKey, List.find?_cons, c]
      have e2 : valN ((k', d) :: ds) k = valN ds k := by simp [valN, List.find?_cons, c]
      rw [e1, e2]
      exact NR.val k b
theorem NR.some_eq (k : NestedKey) {xs : NE} {kvs : List (NestedKey × D)} (r : NR g H μ xs kvs) : (atKey xs k).isSome = (valN kvs k).isSome := by
  rcases r.val k with ⟨e1, e2⟩ | ⟨a, u, v, d, e1, e2, _⟩ <;> rw [e1, e2] <;> rfl
theorem NR.repl (k : NestedKey) {u : Value} {v : V} {d : D} (ru : RelV v u) (vd : VR g H μ v d) : ∀ {xs : NE} {kvs : List (NestedKey × D)}, NR g H μ xs kvs → NR g H μ (xs.map (putAt k u)) (kvs.map fun x => if x.1 = k then (x.1, d) else x)
  | _, _, .nil => .nil
  | _, _, @NR.cons _ _ _ k' a u' e d' v' xs ds va ek l r vd' b => by
    rw [List.map_cons, List.map_cons]
    by_cases c : k' = k
    · simp only [putAt, c, if_true]
      exact .cons va (c ▸ ek) (c ▸ l) ru vd (NR.repl k ru vd b)
    · simp only [putAt, c, if_false]
      exact .cons va ek l r vd' (NR.repl k ru vd b)
theorem NR.snoc {k : NestedKey} {a : Addr} {u : Value} {e d : D} {v : V} (va : VR g H μ (.ref a) e) (ek : nkD e = some k) (l : k.depth ≤ 8) (ru : RelV v u) (vd : VR g H μ v d) : ∀ {xs : NE} {kvs : List (NestedKey × D)}, NR g H μ xs kvs → NR g H μ (xs ++ [(k, a, u)]) (kvs ++ [(k, d)])
  | _, _, .nil => .cons va ek l ru vd .nil
  | _, _, .cons a1 e1 l1 r1 v1 b => .cons a1 e1 l1 r1 v1 (NR.snoc va ek l ru vd b)
theorem NR.put {k : NestedKey} {a : Addr} {u : Value} {e d : D} {v : V} (va : VR g H μ (.ref a) e) (ek : nkD e = some k) (l : k.depth ≤ 8) (ru : RelV v u) (vd : VR g H μ v d) {xs : NE} {kvs : List (NestedKey × D)} (r : NR g H μ xs kvs) : NR g H μ (storedH xs k a u) (putN kvs k d) := by
  unfold storedH putN
  rw [r.some_eq k]
  split
  · exact r.repl k ru vd
  · exact r.snoc va ek l ru vd
theorem NR.len : ∀ {xs : NE} {kvs : List (NestedKey × D)}, NR g H μ xs kvs → xs.length = kvs.length
  | _, _, .nil => rfl
  | _, _, .cons _ _ _ _ _ b => by rw [List.length_cons, List.length_cons, NR.len b]
end
def dNIn (a b : D) (h : MH) : R D := match nkT a, getN h b with
  | some k, some l => .ok (.bl (valN l k).isSome) h
  | _, _ => .bad
def dNNotIn (a b : D) (h : MH) : R D := match nkT a, getN h b with
  | some k, some l => .ok (.bl (!(valN l k).isSome)) h
  | _, _ => .bad
def dNIx (a b : D) (h : MH) : R D := match getN h a, nkT b with
  | some l, some k => match valN l k with
    | some v => .ok v h
    | none => .bad
  | _, _ => .bad
def dNSet (x y d : D) (h : MH) : R Unit := match x, nkT y, getN h x with
  | .ref i, some k, some l => if l.length < 1000000 then .ok () (h.set i (.dN (putN l k d))) else .bad
  | _, _, _ => .bad
/-- any key: an int, a text, or a tuple of such -/
def dAIn (a b : D) (h : MH) : R D := match keyD a with
  | some _ => dDIn a b h
  | none => dNIn a b h
def dANotIn (a b : D) (h : MH) : R D := match keyD a with
  | some _ => dDNotIn a b h
  | none => dNNotIn a b h
def dAIx (a b : D) (h : MH) : R D := match keyD b with
  | some _ => dDIx a b h
  | none => dNIx a b h
def dASet (x y d : D) (h : MH) : R Unit := match keyD y with
  | some _ => dDSet x y d h
  | none => dNSet x y d h
def mASet (o i e : ME) : MS := fun ρ h => (e ρ h).out ρ fun d h1 => (o ρ h1).out ρ fun x h2 => (i ρ h2).out ρ fun y h3 => (dASet x y d h3).out ρ fun _ h4 => .nx ρ h4
def rAIn (K : PySem.W.Frag) (w : World) : R2 := fun x y H Q => rDIn x y H Q ∨ rNIn K w x y H Q
def rANotIn (K : PySem.W.Frag) (w : World) : R2 := fun x y H Q => rDNotIn x y H Q ∨ rNNotIn K w x y H Q
def rDIxK : R2 := fun x y H Q => ∃ a k kvs v, x = .ref a ∧ y = kV k ∧ H a = some (.dK kvs) ∧ valV kvs k = some v ∧ Q v H
def rAIx (K : PySem.W.Frag) (w : World) : R2 := fun x y H Q => rDIxK x y H Q ∨ rNIx K w x y H Q
section
variable {X : Cx} {g : G} {W : WX}
variable {o i e : Expr} {mo mi me : ME} {pos p2 : Pos}
end
end Mi

/-! dict(xs) of a list of pairs whose firsts are tuples. -/
namespace Mi
open PySem L2 PySem.Spec PyProof.Rows
/-- a pair as it stands: its address, the key's, the key, the value -/
structure PR4 where
  t : Addr
  a : Addr
  k : NestedKey
  v : V
abbrev PRU := List (PR4 × Value)
def neOf (T : PRU) : NE := T.map fun q => (q.1.k, q.1.a, q.2)
def rDictP (K : PySem.W.Frag) (w : World) : List V → Hp → VK → Prop := fun xs H Q => ∃ (l : Addr) (T : List PR4), xs = [V.ref l] ∧ SqL K H l (T.map fun r => V.ref r.t) ∧ (∀ r ∈ T, SqT K H r.t [V.ref r.a, r.v] ∧ NkV K H r.k (.ref r.a) ∧ r.k.depth ≤ 8) ∧ T.length < sizeLine ∧
  ∀ p (TU : PRU), H p = none → TU.map (·.1) = T → (∀ x ∈ TU, RelV x.1.v x.2) → Q (.ref p) (upd H p (DN w p (PySem.storedAllH [] (neOf TU))))
section
variable {X : Cx}
end
/-! ### the mirror -/
def pairsN : List D → Option (List (NestedKey × D))
  | [] => some []
  | .tup [kd, vd] :: l => match nkT kd, pairsN l with
    | some k, some r => some ((k, vd) :: r)
    | _, _ => none
  | _ :: _ => none
def foldN (acc : List (NestedKey × D)) (l : List (NestedKey × D)) : List (NestedKey × D) := l.foldl (fun a p => putN a p.1 p.2) acc
def dDictP : List D → MH → R D
  | [.ref i], h => match (getL h i).bind pairsN with
    | some l => if l.length < 1000000 then .ok (.ref h.length) (h ++ [.dN (foldN [] l)]) else .bad
    | none => .bad
  | _, _ => .bad
inductive PRR (g : G) (H : Hp) (μ : List Addr) : List PR4 → List (NestedKey × D) → Prop
  | nil : PRR g H μ [] []
  | cons {r : PR4} {e d : D} {T : List PR4} {l : List (NestedKey × D)} : VR g H μ (.ref r.a) e → nkD e = some r.k → r.k.depth ≤ 8 → VR g H μ r.v d → PRR g H μ T l → PRR g H μ (r :: T) ((r.k, d) :: l)
section
variable {g : G} {H H1 : Hp} {μ μ1 : List Addr}
theorem PRR.mono (m : Mon g H H1 μ μ1) : ∀ {T : List PR4} {l : List (NestedKey × D)}, PRR g H μ T l → PRR g H1 μ1 T l
  | _, _, .nil => .nil
  | _, _, .cons a b c d e => .cons (a.mono m) b c (d.mono m) (PRR.mono m e)
theorem PRR.len : ∀ {T : List PR4} {l : List (NestedKey × D)}, PRR g H μ T l → T.length = l.length
  | _, _, .nil => rfl
  | _, _, .cons _ _ _ _ e => by rw [List.length_cons, List.length_cons, PRR.len e]
end
/-! ### the calculus -/
end Mi

/-! A def of a class, called through the class: Base.__init__(self). -/
namespace Mi
open PySem L2 PySem.Spec PyProof.Rows ClX
def Dc (K : PySem.W.Frag) (mg : Str → Option Value) (c x qual : Str) (st : Stmt) (ps : List Str) : Prop :=
  ∃ C mc f fd, mg c = some (.ref C) ∧ CRead K C mc ∧ PySem.W.findCls K (.ref C) mc x = some (.val (.ref f)) ∧ Fun K x qual st f fd ∧ Binds K fd ps []
def CfOf (P : Program) (w : World) (K : PySem.W.Frag) (mg : Str → Option Value) (base : Heap) (c x : Str) (k : Nat) (F : List D → MH → R D) : Prop :=
  ∃ C mc f fd ps, mg c = some (.ref C) ∧ CRead K C mc ∧ PySem.W.findCls K (.ref C) mc x = some (.val (.ref f)) ∧ PySem.W.keepIn K (.ref f) = true ∧ FnOk P w K mg base (L2.CX P w) k f fd ps (spM (gOf w K) F) ∧ Binds K fd ps []
section
variable {P : Program} {w : World} {K : PySem.W.Frag} {mg : Str → Option Value} {base : Heap} {h : Heap}
theorem CfOf.mono {c x : Str} {F : List D → MH → R D} {j k : Nat} (e : CfOf P w K mg base c x j F) (h : j ≤ k) : CfOf P w K mg base c x k F := by
  obtain ⟨C, mc, f, fd, ps, h1, h2, h3, h4, h5, h6⟩ := e
  exact ⟨C, mc, f, fd, ps, h1, h2, h3, h4, h5.mono h, h6⟩
end
section
variable {X : Cx} {W : WX} {e : Expr} {es : List Expr} {mr : MA} {p pos apos : Pos} {c x : Str}
end
end Mi

/-! list.insert(i, x), list.pop(i), i not below 0. -/
namespace Mi
open PySem L2 PySem.Spec PyProof.Rows
def rInsert : V → List V → Hp → VK → Prop := fun x vs H Q => ∃ (l : Addr) (xs : List V) (i : Int) (y : V), x = .ref l ∧ vs = [.int i, y] ∧ H l = some (.lst xs) ∧ xs.length < sizeLine ∧ 0 ≤ i ∧ i < 2 ^ 63 ∧
    Q .non (upd H l (.lst (xs.take i.toNat ++ [y] ++ xs.drop i.toNat)))
theorem VRs.at {g : G} {H : Hp} {μ : List Addr} : ∀ {vs : List V} {ds : List D} {n : Nat} {d : D}, VRs g H μ vs ds → ds[n]? = some d → ∃ v, vs[n]? = some v ∧ VR g H μ v d
  | _, _, n, d, .nil, e => by simp at e
  | _, _, 0, d, .cons a b, e => by simp at e; subst e; exact ⟨_, rfl, a⟩
  | _, _, n + 1, d, .cons a b, e => by
    obtain ⟨v, h1, h2⟩ := VRs.at (n := n) b (by simpa using e)
    exact ⟨v, by simpa using h1, h2⟩
def dInsert : D → List D → MH → R D
  | .ref i, [.int k, d], h => match h[i]? with
    | some (.lst l) => if (0 ≤ k ∧ k < 9223372036854775808) ∧ l.length < 1000000 then .ok .non (h.set i (.lst (l.take k.toNat ++ [d] ++ l.drop k.toNat))) else .bad
    | _ => .bad
  | _, _, _ => .bad
def dPopI : D → List D → MH → R D
  | .ref i, [.int k], h => match h[i]? with
    | some (.lst l) => if 0 ≤ k ∧ k < 9223372036854775808 then match l[k.toNat]? with
      | some d => .ok d (h.set i (.lst (l.eraseIdx k.toNat)))
      | none => .bad else .bad
    | _ => .bad
  | _, _, _ => .bad
/-! ### the calculus -/
end Mi

/-! t[::-1], a tuple or a list. -/
namespace PySem.W
open PySem.Calls PyProof.Rows HT
end PySem.W
namespace Mi
open PySem L2 PySem.Spec PyProof.Rows PySem.W HT
section
variable {prog : Program} {w : World} {A : Around} {E : Value → Shared → Prop} {s : Shared}
end
def tRevT (K : PySem.W.Frag) (te : TE) : TE := fun σ H Q => te σ H fun x H1 => ∃ a xs, x = .ref a ∧ SqT K H1 a xs ∧ ∀ (p : Addr) (ob : Obj), H1 p = none → ob.dict = none → Q (.ref p) (upd H1 p (.frz ob (.tup xs.reverse)))
def dRevA (x : D) (h : MH) : R D := match x with
  | .tup l => .ok (.tup l.reverse) h
  | x => dRevL x h
def mRevA (a : ME) : ME := mUn dRevA a
end Mi

/-! A comprehension over a dict's keys (the dict is locked as long as it runs); sorted and min of a list of pairs of whole numbers; sorted of a tuple of texts. -/
namespace Mi
open PySem L2 PySem.Spec PyProof.Rows
/-! ### what stands on when a locked thing is free again -/
structure Mn (g : G) (H H' : Hp) (μ μ' : List Addr) : Prop where
  pre : μ <+: μ'
  tups : ∀ p xs, Tk g.K H p xs → Tk g.K H' p xs
  xs : ∀ p u, isX p u → H p = some u → H' p = some u
section
variable {g : G} {H H1 : Hp} {μ μ1 : List Addr}
mutual
theorem VR.mn (m : Mn g H H1 μ μ1) : ∀ {v : V} {d : D}, VR g H μ v d → VR g H1 μ1 v d
  | _, _, .non => .non
  | _, _, .bl b => .bl b
  | _, _, .int i => .int i
  | _, _, .str x => .str x
  | _, _, .ref h => .ref (by
      obtain ⟨t, e⟩ := m.pre
      rw [← e, List.getElem?_append_left (List.getElem?_eq_some_iff.mp h).1]
      exact h)
  | _, _, .tup h hs => .tup (m.tups _ _ h) (VRs.mn m hs)
  | _, _, .xo h c f v => .xo (m.xs _ _ (.inl ⟨_, _, rfl⟩) h) c (by
      rcases f with f | ⟨dd, fv, e1, e2, e3⟩
      · exact .inl f
      · exact .inr ⟨dd, fv, e1, m.xs _ _ (.inr ⟨_, rfl⟩) e2, e3⟩) (VR.mn m v)
theorem VRs.mn (m : Mn g H H1 μ μ1) : ∀ {vs : List V} {ds : List D}, VRs g H μ vs ds → VRs g H1 μ1 vs ds
  | _, _, .nil => .nil
  | _, _, .cons a b => .cons (VR.mn m a) (VRs.mn m b)
end
theorem KR.mn {κ : Type} (m : Mn g H H1 μ μ1) : ∀ {vs : List (κ × V)} {ds : List (κ × D)}, KR g H μ vs ds → KR g H1 μ1 vs ds
  | _, _, .nil => .nil
  | _, _, .cons a b => .cons (a.mn m) (KR.mn m b)
theorem NR.mn (m : Mn g H H1 μ μ1) : ∀ {xs : List (NestedKey × Addr × Value)} {ds : List (NestedKey × D)}, NR g H μ xs ds → NR g H1 μ1 xs ds
  | _, _, .nil => .nil
  | _, _, .cons a e l r v b => .cons (a.mn m) e l r (v.mn m) (NR.mn m b)
theorem TR.mn (m : Mn g H H1 μ μ1) : ∀ {xs : List (NestedKey × Addr × Value)} {ds : List (D × D)}, TR g H μ xs ds → TR g H1 μ1 xs ds
  | _, _, .nil => .nil
  | _, _, .cons a e l r v b => .cons (a.mn m) e l r (v.mn m) (TR.mn m b)
theorem OR.mn_at {p : Addr} {o : MO} (m : Mn g H H1 μ μ1) (k : ∀ u, H p = some u → H1 p = some u) (h : OR g H μ p o) : OR g H1 μ1 p o := by
  cases o with
  | lst ds => obtain ⟨xs, a, b⟩ := h; exact ⟨xs, k _ a, b.mn m⟩
  | rol ds =>
    obtain ⟨xs, a, b⟩ := h
    refine ⟨xs, ?_, b.mn m⟩
    rcases a with ⟨u, a⟩ | a
    · exact .inl ⟨u, k _ a⟩
    · exact .inr a
  | dK kvs => obtain ⟨xs, a, b⟩ := h; exact ⟨xs, k _ a, b.mn m⟩
  | ins c fs => obtain ⟨C, dx, xs, a, c', b⟩ := h; exact ⟨C, dx, xs, k _ a, c', b.mn m⟩
  | dN kvs => obtain ⟨xs, a, b⟩ := h; exact ⟨xs, k _ a, b.mn m⟩
  | fK kvs => obtain ⟨u, xs, a, b⟩ := h; exact ⟨u, xs, k _ a, b.mn m⟩
  | dT kvs => obtain ⟨xs, a, b⟩ := h; exact ⟨xs, k _ a, b.mn m⟩
  | fT kvs => obtain ⟨u, xs, a, b⟩ := h; exact ⟨u, xs, k _ a, b.mn m⟩
/-- a locked dict is free again -/
theorem HR.free {h : MH} {i : Nat} {p : Addr} {od : Obj} {kv : List (Key × V)} {l : List (Key × D)} (r : HR g H μ h) (hi : μ[i]? = some p) (hw : h[i]? = some (.fK l)) (hp : H p = some (.frz od (.dK kv))) (m : Mn g H (upd H p (.dK kv)) μ μ) : HR g (upd H p (.dK kv)) μ (h.set i (.dK l)) := by
  have hlt : i < h.length := (List.getElem?_eq_some_iff.mp hw).1
  refine ⟨by rw [List.length_set]; exact r.len, fun j q v hj hv => ?_, fun j k q v x hj hk hv hx m1 m2 => ?_⟩
  · by_cases e : i = j
    · subst e
      rw [List.getElem?_set_self hlt] at hv
      rw [hi] at hj
      cases hj; cases hv
      obtain ⟨o', kv', e1, kr⟩ := r.ob i p _ hi hw
      rw [hp] at e1
      cases e1
      exact ⟨kv, upd_same, kr.mn m⟩
    · rw [List.getElem?_set_ne e] at hv
      have old := r.ob j q v hj hv
      by_cases eq : q = p
      · subst eq
        cases mv : isMut v with
        | true => exact absurd (r.nd i j q _ v hi hj hw hv rfl mv) e
        | false =>
          cases v with
          | rol ds =>
            obtain ⟨xs, a, b⟩ := old
            refine ⟨xs, ?_, b.mn m⟩
            rcases a with ⟨u', a⟩ | a
            · rw [hp] at a; cases a
            · exact .inr a
          | lst ds => cases mv
          | dK kvs => cases mv
          | ins c fs => cases mv
          | dN kvs => cases mv
          | fK kvs => cases mv
          | dT kvs => cases mv
          | fT kvs => cases mv
      · exact old.mn_at m fun u eu => by rw [upd_ne eq]; exact eu
  · have key : ∀ (j : Nat) (v : MO), (h.set i (.dK l))[j]? = some v → isMut v = true → ∃ v', h[j]? = some v' ∧ isMut v' = true := fun j v hv mv => by
      by_cases e : i = j
      · subst e; exact ⟨_, hw, rfl⟩
      · rw [List.getElem?_set_ne e] at hv; exact ⟨v, hv, mv⟩
    obtain ⟨v', hv', mv'⟩ := key j v hv m1
    obtain ⟨x', hx', mx'⟩ := key k x hx m2
    exact r.nd j k q v' x' hj hk hv' hx' mv' mx'
end
/-! ### the lock -/
def mLock (k : Nat) (m : ME) : ME := fun ρ h => match ρ[k]? with
  | some (some (.ref i)) => match h[i]? with
    | some (.dK l) => (m ρ (h.set i (.fK l))).bind fun y h' => match h'[i]? with
      | some (.fK l') => .ok y (h'.set i (.dK l'))
      | _ => .bad
    | _ => .bad
  | _ => .bad
section
variable {X : Cx} {g : G} {W : WX} {e : Expr} {m : ME}
/-! ### its keys -/
def kD : Key → D
  | .inl i => .int i
  | .inr x => .str x
def mKeysF (ma : ME) : MI := fun ρ h => (ma ρ h).bind fun x h1 => match x with
  | .ref i => match h1[i]? with
    | some (.fK l) => .ok (l.map (fun p => kD p.1), yes) h1
    | _ => .bad
  | _ => .bad
end
end Mi
namespace Mi
open PySem L2 PySem.Spec PyProof.Rows
def leP (p q : Int × Int) : Bool := decide (p.1 < q.1 ∨ (p.1 = q.1 ∧ p.2 ≤ q.2))
def sortP (l : List (Int × Int)) : List (Int × Int) := l.mergeSort leP
def pairD (p : Int × Int) : D := .tup [.int p.1, .int p.2]
def allPair : List D → Option (List (Int × Int))
  | [] => some []
  | .tup [.int a, .int b] :: l => (allPair l).map ((a, b) :: ·)
  | _ => none
def encP (b : Int × Int) : PyData := .tuple [.int b.1, .int b.2]
def PairV (K : PySem.W.Frag) (H : Hp) (x : V) (b : Int × Int) : Prop := ∃ q, x = .ref q ∧ Tk K H q [.int b.1, .int b.2]
abbrev PairsV (K : PySem.W.Frag) (H : Hp) : List V → List (Int × Int) → Prop := PySem.W.EachIs (PairV K H)
def rSortP (K : PySem.W.Frag) : List V → Hp → VK → Prop := fun xs H Q => ∃ p ys bs, xs = [V.ref p] ∧ SqL K H p ys ∧ PairsV K H ys bs ∧ ∀ zs r, PairsV K H zs (sortP bs) → H r = none → Q (.ref r) (upd H r (.lst zs))
section
variable {X : Cx} {pins : List (Addr × Obj)} {σ : L2.St} {H : Hp} {s : Shared}
end
def dSortP : List D → MH → R D
  | [x], h => match x with
    | .ref i => match getL h i with
      | some l => match allPair l with
        | some ps => .ok (.ref h.length) (h ++ [.lst ((sortP ps).map pairD)])
        | none => .bad
      | none => .bad
    | _ => .bad
  | _, _ => .bad
/-! ### sorted of a tuple of texts -/
def rSortTu (K : PySem.W.Frag) : List V → Hp → VK → Prop := fun xs H Q => ∃ p ys, xs = [V.ref p] ∧ SqT K H p (ys.map V.str) ∧ ∀ r, H r = none → Q (.ref r) (upd H r (.lst ((sortS ys).map V.str)))
def dSortTu : List D → MH → R D
  | [x], h => match x with
    | .tup l => match allStr l with
      | some ys => .ok (.ref h.length) (h ++ [.lst ((sortS ys).map .str)])
      | none => .bad
    | _ => .bad
  | _, _ => .bad
end Mi

/-! tuple.index of a whole number. -/
namespace Mi
open PySem L2 PySem.Spec PyProof.Rows
section
variable {X : Cx} {g : G} {W : WX} {a b : Expr} {ma mb : ME} {pos : Pos}
def dTIdxI (x y : D) (h : MH) : R D := match x, y with
  | .tup l, .int k => match allInt l with
    | some ns => if k ∈ ns then .ok (.int (ns.idxOf k : Nat)) h else .bad
    | none => .bad
  | _, _ => .bad
def mTIndexI (a b : ME) : ME := fun ρ h => (a ρ h).bind fun x h1 => match x with
  | .tup l => (b ρ h1).bind fun y h2 => dTIdxI (.tup l) y h2
  | _ => .bad
end
/-! the calculus -/
section
variable {Q : D → MH → Prop} {E : XE} {h : MH} {ρ : Slots}
end
end Mi

/-! list.extend of a tuple. -/
namespace Mi
open PySem L2 PySem.Spec PyProof.Rows
open AutoSeq1 (wpAny_loadPart')
def rExtTu (K : PySem.W.Frag) : V → List V → Hp → VK → Prop := fun x vs H Q => ∃ l b xs zs, x = .ref l ∧ vs = [.ref b] ∧ H l = some (.lst xs) ∧ SqT K H b zs ∧ xs.length + zs.length ≤ sizeLine ∧ Q .non (upd H l (.lst (xs ++ zs)))
def dExtTu : D → List D → MH → R D
  | .ref i, [x], h => match x with
    | .tup m => match h[i]? with
      | some (.lst l) => if l.length + m.length ≤ 1000000 then .ok .non (h.set i (.lst (l ++ m))) else .bad
      | _ => .bad
    | _ => .bad
  | _, _, _ => .bad
end Mi

/-! dict.get and dict.setdefault (keys whole numbers, texts, tuples); min of whole numbers and of pairs of them. -/
namespace Mi
open PySem L2 PySem.Spec PyProof.Rows
def IsDN (w : World) (H : Hp) (a : Addr) : Prop := (∃ kvs, H a = some (.dK kvs)) ∨ ∃ xs, H a = some (DN w a xs)
def rGetA (K : PySem.W.Frag) (w : World) (x y z : V) (H : Hp) (Q : VK) : Prop :=
  (∃ a k kvs, x = .ref a ∧ y = kV k ∧ H a = some (.dK kvs) ∧ Q ((valV kvs k).getD z) H) ∨
  ∃ c p k xs, x = .ref p ∧ y = .ref c ∧ NkV K H k (.ref c) ∧ k.depth ≤ 8 ∧ NDct w H p xs ∧ NKeys K H xs ∧ (∀ c' u, atKey xs k = some (c', u) → ∃ v, RelV v u ∧ Q v H) ∧ (atKey xs k = none → Q z H)
def rSetA (K : PySem.W.Frag) (w : World) (x y z : V) (H : Hp) (Q : VK) : Prop :=
  (∃ a k kvs, x = .ref a ∧ y = kV k ∧ H a = some (.dK kvs) ∧ kvs.length < sizeLine ∧ (∀ v, valV kvs k = some v → Q v H) ∧ (valV kvs k = none → Q z (upd H a (.dK (putK kvs k z))))) ∨
  ∃ c p k xs, x = .ref p ∧ y = .ref c ∧ NkV K H k (.ref c) ∧ k.depth ≤ 8 ∧ NDct w H p xs ∧ NKeys K H xs ∧ xs.length < sizeLine ∧ (∀ c' u, atKey xs k = some (c', u) → ∃ v, RelV v u ∧ Q v H) ∧ (atKey xs k = none → ∀ u, RelV z u → Q z (upd H p (DN w p (storedH xs k c u))))
def tDM2 (w : World) (r : V → V → V → Hp → VK → Prop) (td ty tx : TE) : TE := fun σ H Q => td σ H fun x H1 => ∃ a, x = .ref a ∧ IsDN w H1 a ∧ ty σ H1 fun y H2 => tx σ H2 fun z H3 => r x y z H3 Q
section
variable {X : Cx} {pins : List (Addr × Obj)} {σ : L2.St} {H : Hp} {s : Shared} {a : Addr}
end
section
variable {X : Cx} {o e f : Expr} {td ty tx : TE} {apos cpos : Pos}
end
/-! ### the mirror -/
def isDctD (x : D) (h : MH) : Bool := match x with
  | .ref i => match h[i]? with
    | some (.dK _) => true
    | some (.dN _) => true
    | _ => false
  | _ => false
def dGetA (x y z : D) (h : MH) : R D := match keyD y with
  | some k => match getK h x with
    | some l => .ok ((valD l k).getD z) h
    | none => .bad
  | none => match nkT y, getN h x with
    | some k, some l => .ok ((valN l k).getD z) h
    | _, _ => .bad
def dSetA (x y z : D) (h : MH) : R D := match x with
  | .ref i => match keyD y with
    | some k => match getK h (.ref i) with
      | some l => if l.length < 1000000 then match valD l k with
        | some v => .ok v h
        | none => .ok z (h.set i (.dK (putKD l k z))) else .bad
      | none => .bad
    | none => match nkT y, getN h (.ref i) with
      | some k, some l => if l.length < 1000000 then match valN l k with
        | some v => .ok v h
        | none => .ok z (h.set i (.dN (putN l k z))) else .bad
      | _, _ => .bad
  | _ => .bad
def mDM (F : D → D → D → MH → R D) (o e f : ME) : ME := fun ρ h => (o ρ h).bind fun x h1 => if isDctD x h1 = true then (e ρ h1).bind fun y h2 => (f ρ h2).bind fun z h3 => F x y z h3 else .bad
section
variable {g : G} {H : Hp} {μ : List Addr} {h : MH}
end
def S3 (g : G) (r : V → V → V → Hp → VK → Prop) (F : D → D → D → MH → R D) : Prop := ∀ (H : Hp) (μ : List Addr) (h : MH) (x y z : V) (a b c : D) (Q : VK) (W : XK), HR g H μ h → VR g H μ x a → VR g H μ y b → VR g H μ z c → Bk (VR g) g H μ (F a b c h) Q W → r x y z H Q
section
variable {g : G}
end
section
variable {X : Cx} {W : WX} {o e f : Expr} {mo me mf : ME} {apos cpos : Pos} {r : V → V → V → Hp → VK → Prop} {F : D → D → D → MH → R D}
end
/-! ### min -/
def ltP (p q : Int × Int) : Bool := decide (p.1 < q.1 ∨ (p.1 = q.1 ∧ p.2 < q.2))
def minP : List (Int × Int) → Int × Int
  | [] => (0, 0)
  | b :: bs => bs.foldl (fun a y => if ltP y a then y else a) b
def minI : List Int → Int
  | [] => 0
  | b :: bs => bs.foldl min b
def rMinP (K : PySem.W.Frag) : List V → Hp → VK → Prop := fun xs H Q => ∃ p ys bs, xs = [V.ref p] ∧ SqL K H p ys ∧ PairsV K H ys bs ∧ 0 < bs.length ∧ ∀ z, PairV K H z (minP bs) → Q z H
def rMinA (K : PySem.W.Frag) : List V → Hp → VK → Prop := fun xs H Q => rMin K xs H Q ∨ rMinP K xs H Q
section
variable {X : Cx} {pins : List (Addr × Obj)} {σ : L2.St} {H : Hp} {s : Shared}
end
def dMinA : List D → MH → R D
  | [x], h => match x with
    | .ref i => match (getL h i).bind allInt with
      | some ns => if 0 < ns.length then .ok (.int (minI ns)) h else .bad
      | none => match (getL h i).bind allPair with
        | some ps => if 0 < ps.length then .ok (pairD (minP ps)) h else .bad
        | none => .bad
    | _ => .bad
  | _, _ => .bad
/-! ### x >> y -/
def dShr : D → D → MH → R D
  | .int i, .int j, h => if 0 ≤ j then .ok (.int (i / 2 ^ j.toNat)) h else .bad
  | _, _, _ => .bad
/-! ### the calculus -/
section
variable {Q : D → MH → Prop} {E : XE} {h : MH} {ρ : Slots}
end
end Mi

/-! list(d), sorted(d) of a dict with whole numbers as keys. -/
namespace Mi
open PySem L2 PySem.Spec PyProof.Rows
def leI (a b : Int) : Bool := decide (a ≤ b)
def rSortKI : List V → Hp → VK → Prop := fun xs H Q => ∃ (a : Addr) (kvs : List (Key × V)) (ys : List Int), xs = [V.ref a] ∧ H a = some (.dK kvs) ∧ kvs.map (·.1) = ys.map Sum.inl ∧ ∀ p, H p = none → Q (.ref p) (upd H p (.lst ((sortI ys).map V.int)))
/-- the keys, all of them whole numbers -/
def intKeys : List (Key × D) → Option (List Int)
  | [] => some []
  | (.inl x, _) :: l => (intKeys l).map (x :: ·)
  | (.inr _, _) :: _ => none
def dSortKI : List D → MH → R D
  | [x], h => match getK h x with
    | some l => match intKeys l with
      | some ys => .ok (.ref h.length) (h ++ [.lst ((sortI ys).map .int)])
      | none => .bad
    | none => .bad
  | _, _ => .bad
/-! ### list(d) -/
def rListK : List V → Hp → VK → Prop := fun xs H Q => ∃ (a : Addr) (kvs : List (Key × V)), xs = [V.ref a] ∧ H a = some (.dK kvs) ∧ ∀ p, H p = none → Q (.ref p) (upd H p (.lst (kvs.map fun e => kV e.1)))
def dListK : List D → MH → R D
  | [x], h => match getK h x with
    | some l => .ok (.ref h.length) (h ++ [.lst (l.map fun p => kD p.1)])
    | none => .bad
  | _, _ => .bad
end Mi

/-! sorted of a list of triples of whole numbers -/
namespace Mi
open PySem L2 PySem.Spec PyProof.Rows
def triD (p : Int × Int × Int) : D := .tup [.int p.1, .int p.2.1, .int p.2.2]
def allTri : List D → Option (List (Int × Int × Int))
  | [] => some []
  | .tup [.int a, .int b, .int c] :: l => (allTri l).map ((a, b, c) :: ·)
  | _ => none
def encQ (b : Int × Int × Int) : PyData := .tuple [.int b.1, .int b.2.1, .int b.2.2]
def sortQ (l : List (Int × Int × Int)) : List (Int × Int × Int) := l.mergeSort (PySem.W.dataLe false encQ)
def TriV (K : PySem.W.Frag) (H : Hp) (x : V) (b : Int × Int × Int) : Prop := ∃ q, x = .ref q ∧ Tk K H q [.int b.1, .int b.2.1, .int b.2.2]
abbrev TrisV (K : PySem.W.Frag) (H : Hp) : List V → List (Int × Int × Int) → Prop := PySem.W.EachIs (TriV K H)
def rSortQ (K : PySem.W.Frag) : List V → Hp → VK → Prop := fun xs H Q => ∃ p ys bs, xs = [V.ref p] ∧ SqL K H p ys ∧ TrisV K H ys bs ∧ ∀ zs r, TrisV K H zs (sortQ bs) → H r = none → Q (.ref r) (upd H r (.lst zs))
section
variable {X : Cx} {pins : List (Addr × Obj)} {σ : L2.St} {H : Hp} {s : Shared}
end
def dSortQ : List D → MH → R D
  | [x], h => match x with
    | .ref i => match getL h i with
      | some l => match allTri l with
        | some ps => .ok (.ref h.length) (h ++ [.lst ((sortQ ps).map triD)])
        | none => .bad
      | none => .bad
    | _ => .bad
  | _, _ => .bad
end Mi

/-! dicts with tuple keys whose key objects are kept: d[k] = v, k not in d, list(d) -/
namespace Mi
open PySem L2 PySem.Spec PyProof.Rows
def getT (h : MH) (x : D) : Option (List (D × D)) := match x with
  | .ref i => match h[i]? with
    | some (.dT l) => some l
    | some (.dK []) => some []
    | _ => none
  | _ => none
def valT (kvs : List (D × D)) (k : NestedKey) : Option D := (kvs.find? fun x => decide (nkD x.1 = some k)).map (·.2)
def putT (kvs : List (D × D)) (e : D) (k : NestedKey) (d : D) : List (D × D) :=
  if (valT kvs k).isSome = true then kvs.map (fun x => if nkD x.1 = some k then (x.1, d) else x) else kvs ++ [(e, d)]
section
variable {g : G} {H : Hp} {μ : List Addr} {h : MH}
theorem TR.keys : ∀ {xs : NE} {kvs : List (D × D)}, TR g H μ xs kvs → NKeys g.K H xs
  | _, _, .nil => fun e he => by simp at he
  | _, _, .cons a e l r v b => fun x hx => by
    rcases List.mem_cons.mp hx with rfl | hx
    · exact ⟨nkv_of _ _ _ a e, l⟩
    · exact TR.keys b x hx
theorem TR.val (k : NestedKey) : ∀ {xs : NE} {kvs : List (D × D)}, TR g H μ xs kvs → (atKey xs k = none ∧ valT kvs k = none) ∨ ∃ a u v d, atKey xs k = some (a, u) ∧ valT kvs k = some d ∧ RelV v u ∧ VR g H μ v d
  | _, _, .nil => .inl ⟨rfl, rfl⟩
  | _, _, @TR.cons _ _ _ k' a u e d v xs ds va ek l r vd b => by
    by_cases c : k' = k
    · refine .inr ⟨a, u, v, d, ?_, ?_, r, vd⟩
      · simp [atKey, List.find?_cons, c]
      · simp [valT, List.find?_cons, ek, c]
    · have e1 : atKey ((k', a, u) :: xs) k = atKey xs k := by simp [atKey, List.find?_cons, c]
      have e2 : valT ((e, d) :: ds) k = valT ds k := by simp [valT, List.find?_cons, ek, c]
      rw [e1, e2]
      exact TR.val k b
theorem TR.some_eq (k : NestedKey) {xs : NE} {kvs : List (D × D)} (r : TR g H μ xs kvs) : (atKey xs k).isSome = (valT kvs k).isSome := by
  rcases r.val k with ⟨e1, e2⟩ | ⟨a, u, v, d, e1, e2, _⟩ <;> rw [e1, e2] <;> rfl
theorem TR.repl (k : NestedKey) {u : Value} {v : V} {d : D} (ru : RelV v u) (vd : VR g H μ v d) : ∀ {xs : NE} {kvs : List (D × D)}, TR g H μ xs kvs → TR g H μ (xs.map (putAt k u)) (kvs.map fun x => if nkD x.1 = some k then (x.1, d) else x)
  | _, _, .nil => .nil
  | _, _, @TR.cons _ _ _ k' a u' e d' v' xs ds va ek l r vd' b => by
    rw [List.map_cons, List.map_cons]
    by_cases c : k' = k
    · simp only [putAt, c, ek, if_true]
      exact .cons va (c ▸ ek) (c ▸ l) ru vd (TR.repl k ru vd b)
    · have c2 : ¬ (some k' = some k) := fun z => c (Option.some.inj z)
      simp only [putAt, c, ek, c2, if_false]
      exact .cons va ek l r vd' (TR.repl k ru vd b)
theorem TR.snoc {k : NestedKey} {a : Addr} {u : Value} {e d : D} {v : V} (va : VR g H μ (.ref a) e) (ek : nkD e = some k) (l : k.depth ≤ 8) (ru : RelV v u) (vd : VR g H μ v d) : ∀ {xs : NE} {kvs : List (D × D)}, TR g H μ xs kvs → TR g H μ (xs ++ [(k, a, u)]) (kvs ++ [(e, d)])
  | _, _, .nil => .cons va ek l ru vd .nil
  | _, _, .cons a1 e1 l1 r1 v1 b => .cons a1 e1 l1 r1 v1 (TR.snoc va ek l ru vd b)
theorem TR.put {k : NestedKey} {a : Addr} {u : Value} {e d : D} {v : V} (va : VR g H μ (.ref a) e) (ek : nkD e = some k) (l : k.depth ≤ 8) (ru : RelV v u) (vd : VR g H μ v d) {xs : NE} {kvs : List (D × D)} (r : TR g H μ xs kvs) : TR g H μ (storedH xs k a u) (putT kvs e k d) := by
  unfold storedH putT
  rw [r.some_eq k]
  split
  · exact r.repl k ru vd
  · exact r.snoc va ek l ru vd
theorem TR.len : ∀ {xs : NE} {kvs : List (D × D)}, TR g H μ xs kvs → xs.length = kvs.length
  | _, _, .nil => rfl
  | _, _, .cons _ _ _ _ _ b => by rw [List.length_cons, List.length_cons, TR.len b]
theorem TR.objs : ∀ {xs : NE} {kvs : List (D × D)}, TR g H μ xs kvs → VRs g H μ (xs.map fun x => V.ref x.2.1) (kvs.map (·.1))
  | _, _, .nil => .nil
  | _, _, .cons a _ _ _ _ b => .cons a (TR.objs b)
end
def dTNotIn (a b : D) (h : MH) : R D := match nkT a, getT h b with
  | some k, some l => .ok (.bl (!(valT l k).isSome)) h
  | _, _ => .bad
def dTSet (x y d : D) (h : MH) : R Unit := match x, nkT y, getT h x with
  | .ref i, some k, some l => if l.length < 1000000 then .ok () (h.set i (.dT (putT l y k d))) else .bad
  | _, _, _ => .bad
def mTSet (o i e : ME) : MS := fun ρ h => (e ρ h).out ρ fun d h1 => (o ρ h1).out ρ fun x h2 => (i ρ h2).out ρ fun y h3 => (dTSet x y d h3).out ρ fun _ h4 => .nx ρ h4
def dListT : List D → MH → R D
  | [x], h => match getT h x with
    | some l => .ok (.ref h.length) (h ++ [.lst (l.map (·.1))])
    | none => .bad
  | _, _ => .bad
def rListN (K : PySem.W.Frag) (w : World) : List V → Hp → VK → Prop := fun xs H Q => ∃ (p : Addr) (es : NE), xs = [V.ref p] ∧ NDct w H p es ∧ NKeys K H es ∧ ∀ r, H r = none → Q (.ref r) (upd H r (.lst (es.map fun e => V.ref e.2.1)))
section
variable {X : Cx} {g : G} {W : WX}
variable {o i e : Expr} {mo mi me : ME} {pos p2 : Pos}
end
/-! the calculus -/
section
variable {Q : D → MH → Prop} {E : XE} {h : MH} {ρ : Slots}
end
end Mi

/-! sorted(set(t)) of a tuple of texts -/
namespace Mi
open PySem L2 PySem.Spec PyProof.Rows
section
variable {P : Program} {w : World} {A : Around} {E : Value → Shared → Prop} {s : Shared}
set_option maxHeartbeats 3200000 in
end
def mSortSetT (a : ME) : ME := fun ρ h => (a ρ h).bind fun x h1 => match x with
  | .tup l => match allStr l with
    | some ys => if ys.length < 4000 then .ok (.ref h1.length) (h1 ++ [.lst ((sortS (ys.eraseDups)).map .str)]) else .bad
    | none => .bad
  | _ => .bad
section
variable {X : Cx} {g : G} {W : WX} {ma : ME} {a : Expr} {p p2 q pos : Pos}
end
def dSortSetT : List D → MH → R D
  | [x], h1 => match x with
    | .tup l => match allStr l with
      | some ys => if ys.length < 4000 then .ok (.ref h1.length) (h1 ++ [.lst ((sortS (ys.eraseDups)).map .str)]) else .bad
      | none => .bad
    | _ => .bad
  | _, _ => .bad
section
variable {X : Cx} {g : G} {W : WX} {ma : ME} {a : Expr} {p p2 q pos : Pos}
end
end Mi

/-! max(l, default=d); == of deep data -/
namespace Mi
open PySem L2 PySem.Spec PyProof.Rows
def rMaxD (K : PySem.W.Frag) (a d : V) (H : Hp) (Q : VK) : Prop := ∃ p ns, a = .ref p ∧ SqL K H p (ns.map .int) ∧ (ns = [] → Q d H) ∧ ∀ n r, ns = n :: r → Q (.int (r.foldl max n)) H
section
variable {X : Cx} {x : Str} {p pos kpos : Pos} {e o : Expr} {te tk : TE}
end
def dMaxD : D → D → MH → R D
  | .ref i, d, h => match (getL h i).bind allInt with
    | some [] => .ok d h
    | some (n :: r) => .ok (.int (r.foldl max n)) h
    | none => .bad
  | _, _, _ => .bad
section
variable {X : Cx} {g : G} {W : WX} {a o : Expr} {ma mo : ME} {pos p kpos : Pos} {x : Str}
end
/-! ### == of deep data -/
def eqX (a b : D) (h : MH) : Option Bool := match pyOf 200 h a, pyOf 200 h b with
  | some d, some e => if shapedX d = true ∧ shapedX e = true then some (PyData.eqv d e) else none
  | _, _ => none
def dEqX (a b : D) (h : MH) : R D := match eqX a b h with
  | some k => .ok (.bl k) h
  | none => .bad
def dNeX (a b : D) (h : MH) : R D := match eqX a b h with
  | some k => .ok (.bl (!k)) h
  | none => .bad
section
variable {g : G} {H : Hp} {μ : List Addr} {h : MH}
end
end Mi

/-! text methods: split(sep), strip(chars), startswith(prefix); list.count of ints -/
namespace Mi
open PySem L2 PySem.Spec PyProof.Rows
def dSplit : D → List D → MH → R D
  | .str a, [.str b], h => if (b.length == 0) = false ∧ a.length ≤ 900000 then .ok (.ref h.length) (h ++ [.lst ((Txt.split a b).map .str)]) else .bad
  | _, _, _ => .bad
def dStripC : D → List D → MH → R D
  | .str a, [.str b], h => if a.length ≤ 900000 then .ok (.str (Txt.stripChars a b)) h else .bad
  | _, _, _ => .bad
def dStartsw : D → List D → MH → R D
  | .str a, [.str b], h => .ok (.bl (Txt.startswith a b)) h
  | _, _, _ => .bad
def dLCount : D → List D → MH → R D
  | .ref i, [.int k], h => match (getL h i).bind allInt with
    | some ns => .ok (.int (ns.count k : Nat)) h
    | none => .bad
  | _, _, _ => .bad
section
variable {g : G}
end
section
variable {h : MH} {Q : D → MH → Prop} {E : XE} {x y : Str}
end
end Mi

/-! comprehensions over triples; sorted of texts, of any number -/
namespace Mi
open PySem L2 PySem.Spec PyProof.Rows
def rSortT (K : PySem.W.Frag) : List V → Hp → VK → Prop := fun xs H Q => ∃ p ys, xs = [V.ref p] ∧ SqL K H p (ys.map V.str) ∧ ∀ r, H r = none → Q (.ref r) (upd H r (.lst ((sortS ys).map V.str)))
section
variable {X : Cx}
end
def dSortT : List D → MH → R D
  | [x], h => match x with
    | .ref i => match (getL h i).bind allStr with
      | some ys => .ok (.ref h.length) (h ++ [.lst ((sortS ys).map .str)])
      | none => .bad
    | _ => .bad
  | _, _ => .bad
end Mi

/-! {k: v} where k is a tuple. -/
namespace Mi
open PySem L2 PySem.Spec PyProof.Rows
open PySem.Sem (wp)
section
variable {prog : Program} {w : World} {K : Type} [DecidableEq K] {knd : HeapKind prog w K} {A : Around} {E : Value → Shared → Prop} {s : Shared}
end
def tDisp1N (K : PySem.W.Frag) (w : World) (trs : List (TE × TE)) : TE := fun σ H Q => ∀ p, H p = none → tPairs trs σ (upd H p (.dK [])) fun ps H2 => H2 p = some (.dK []) ∧ ∃ a y k, ps = [(.ref a, y)] ∧ NkV K H2 k (.ref a) ∧ k.depth ≤ 8 ∧ ∀ u, RelV y u → Q (.ref p) (upd H2 p (DN w p [(k, a, u)]))
def mDict1N (k v : ME) : ME := fun ρ h => (k ρ (h ++ [.dK []])).bind fun x h1 => (v ρ h1).bind fun y h2 => if h2[h.length]? = some (.dK []) then match nkT x with
  | some kk => .ok (.ref h.length) (h2.set h.length (.dN [(kk, y)]))
  | none => .bad else .bad
end Mi

/-! zip of a tuple and a list. -/
namespace Mi
open PySem L2 PySem.Spec PyProof.Rows
open PySem.Sem (wp)
/-- the tuple at a and the list at b as they stand at each turn, the items in new pairs -/
def ItzM (K : PySem.W.Frag) (a b : Addr) : L2.It :=
  ⟨fun i H => ∃ (xs ys : List V) (x y : V), SqT K H a xs ∧ SqL K H b ys ∧ xs[i]? = some x ∧ ys[i]? = some y,
    fun i H v H' => ∃ T x y, v = .ref T ∧ H T = none ∧ H' = upd H T (.tup [x, y]) ∧ (∀ xs, SqT K H a xs → xs[i]? = some x) ∧ ∀ ys, SqL K H b ys → ys[i]? = some y,
    fun i H => ∃ xs ys : List V, SqT K H a xs ∧ SqL K H b ys ∧ (xs.length ≤ i ∨ ys.length ≤ i)⟩
section
variable {prog : Program} {w : World} {A : Around}
end
def iZipM (K : PySem.W.Frag) (ta : TA) : TI := fun σ H R => ta σ H fun vs H1 => ∃ a b xs ys, vs = [.ref a, .ref b] ∧ SqT K H1 a xs ∧ SqL K H1 b ys ∧ R (ItzM K a b) H1
def zipM (x y : D) (h : MH) : R (List D × (MH → Bool)) := match x, y with
  | .tup l, .ref j => match getL h j with
    | some m => .ok (zipD l m, fun h' => decide (getL h' j = some m)) h
    | none => .bad
  | _, _ => .bad
def mZipM (a b : ME) : MI := fun ρ h => (a ρ h).bind fun x h1 => (b ρ h1).bind fun y h2 => zipM x y h2
section
variable {X : Cx} {g : G} {W : WX} {a b : Expr} {ma mb : ME} {pos : Pos}
end
section
variable {Q : D → MH → Prop} {QI : List D × (MH → Bool) → MH → Prop} {E : XE} {ρ : Slots} {h : MH} {a b : ME}
end
end Mi

/-! a tuple of one thing, none or so many times; long joins -/
namespace Mi
open PySem PySem.Spec PyProof.Rows L2
/-- a tuple of one item no times -/
def rRep0 (K : PySem.W.Frag) : R2 := fun x y H Q => ∃ l z, x = .ref l ∧ y = .int 0 ∧ SqT K H l [z] ∧ ∀ (p : Addr) (ob : Obj), H p = none → ob.dict = none → Q (.ref p) (upd H p (.frz ob (.tup [])))
section
variable {X : Cx}
end
def dRepZ : D → D → MH → R D
  | .tup [z], .int n, h => if n = 0 then .ok (.tup []) h else dRep (.tup [z]) (.int n) h
  | _, _, _ => .bad
section
variable {X : Cx} {g : G}
def rRepZ (K : PySem.W.Frag) : R2 := fun x y H Q => rRepA K x y H Q ∨ rRep0 K x y H Q
end
/-! long joins -/
def dJoinB : D → List D → MH → R D
  | .str a, [b], h => match (seqOf h b).bind allStr with
    | some ys => if (ys.map (·.length)).sum + ys.length * a.length ≤ 16000000 then .ok (.str (Txt.join a ys)) h else .bad
    | none => .bad
  | _, _, _ => .bad
section
variable {g : G}
end
end Mi

/-! range with a step -/
namespace Mi
open PySem L2 PySem.Spec PyProof.Rows
def stepD (i c : Int) (n : Nat) : List D := (List.range n).map fun (k : Nat) => D.int (i + (k : Int) * c)
def dR3 (x y z : D) (h : MH) : R (List D × (MH → Bool)) := match x, y, z with
  | .int i, .int j, .int c => if c ≠ 0 ∧ c.natAbs < 1073741824 ∧ Builtin.Range.small i j c = true ∧ 0 ≤ Builtin.Range.rangeSize i j c then .ok (stepD i c (Builtin.Range.rangeSize i j c).toNat, yes) h else .bad
  | _, _, _ => .bad
def mRange3 (a b c : ME) : MI := fun ρ h => (a ρ h).bind fun x h1 => (b ρ h1).bind fun y h2 => (c ρ h2).bind fun z h3 => dR3 x y z h3
section
variable {X : Cx} {g : G} {W : WX} {a b c : Expr} {ma mb mc : ME} {pos : Pos} {tg : Expr}
end
section
variable {QI : List D × (MH → Bool) → MH → Prop} {E : XE} {h : MH} {ρ : Slots}
end
end Mi

/-! several except clauses, with a name and without. -/
namespace Mi
open PySem L2 PySem.Spec PyProof.Rows
/-- a clause: without a name; with a name in slot i; kept: slot i is the clause's name, slot j the one that keeps it -/
inductive HKd
  | only (ts : Addr → Value → Option Addr → TS)
  | named (i : Nat) (ts : Addr → Value → Option Addr → TS)
  | keep (i j : Nat)
def wHd (K : PySem.W.Frag) (Wo : WX) (D : Ends) : List (Value × HKd) → WX
  | [] => Wo
  | (c, .only ts) :: r => fun cls d σ H => ∃ b, PySem.W.exmOne K cls c = some b ∧ (b = true → ∀ a, H a = none → ts a cls d D σ H) ∧ (b = false → wHd K Wo D r cls d σ H)
  | (c, .named i ts) :: r => fun cls d σ H => ∃ b, PySem.W.exmOne K cls c = some b ∧ (b = true → ∀ a, H a = none → ts a cls d { nx := fun σ' H' => D.nx (σ'.set i none) H', rt := D.rt, bk := fun σ' H' => D.bk (σ'.set i none) H', ct := fun σ' H' => D.ct (σ'.set i none) H' } (σ.set i (some (.ref a))) H) ∧ (b = false → wHd K Wo D r cls d σ H)
  | (c, .keep i j) :: r => fun cls d σ H => ∃ b, PySem.W.exmOne K cls c = some b ∧ (b = true → ∃ C, cls = .ref C ∧ ∀ p, H p = none → D.nx (((σ.set i (some (.ref p))).set j (some (.ref p))).set i none) (upd H p (XOk C d p))) ∧ (b = false → wHd K Wo D r cls d σ H)
inductive HdsA (X : Cx) : List ExceptHandler → List (Value × HKd) → Prop
  | nil : HdsA X [] []
  | only {x : Str} {c : Value} {ts : Addr → Value → Option Addr → TS} {b0 : Stmt} {suite : List Stmt} {qn q0 : Pos} {hds : List ExceptHandler} {l : List (Value × HKd)} (hc : Names X x c)
      (hsu : ∀ (a : Addr) (oe : Obj) (cls : Value) (d : Option Addr) (pn : List (Addr × Obj)), Zc cls d oe → (∃ vs, oe.data = .fields vs) → PSs (X.suite a ((a, oe) :: pn)) (b0 :: suite) (ts a cls d)) (r : HdsA X hds l) :
      HdsA X (.ExceptHandler (some (.Name x qn)) none (b0 :: suite) q0 :: hds) ((c, .only ts) :: l)
  | named {x n : Str} {i : Nat} {c : Value} {ts : Addr → Value → Option Addr → TS} {b0 : Stmt} {suite : List Stmt} {qn q0 : Pos} {hds : List ExceptHandler} {l : List (Value × HKd)} (hc : Names X x c) (hi : X.N[i]? = some n) (hln : X.env.kindOf n = some .local)
      (hsu : ∀ (a : Addr) (oe : Obj) (cls : Value) (d : Option Addr) (pn : List (Addr × Obj)), Zc cls d oe → (∃ vs, oe.data = .fields vs) → PSs (X.suite a ((a, oe) :: pn)) (b0 :: suite) (ts a cls d)) (r : HdsA X hds l) :
      HdsA X (.ExceptHandler (some (.Name x qn)) (some n) (b0 :: suite) q0 :: hds) ((c, .named i ts) :: l)
  | keep {x n y : Str} {i j : Nat} {c : Value} {qn q0 q1 q2 q3 : Pos} {hds : List ExceptHandler} {l : List (Value × HKd)} (hc : Names X x c) (hi : X.N[i]? = some n) (hj : X.N[j]? = some y) (hij : i ≠ j) (hln : X.env.kindOf n = some .local) (hlr : X.env.kindOf y = some .local)
      (hdn : (n == ("__debug__" : Str)) = false) (hcd : (n == ("__classdict__" : Str)) = false) (hsw : swapsWith (.Name n q2) (some (.Name y q1)) q3.line X.env = pure false) (r : HdsA X hds l) :
      HdsA X (.ExceptHandler (some (.Name x qn)) (some n) [.Assign [.Name y q1] (.Name n q2) q3] q0 :: hds) ((c, .keep i j) :: l)
section
variable {X : Cx} {body : List Stmt} {hd0 : ExceptHandler} {hds : List ExceptHandler} {l : List (Value × HKd)} {q4 : Pos} {tb : WX → TS} {Wo : WX}
end
/-! ### the clauses by values -/
abbrev HF := Str → List (Str × D) → MS
def hdG : List (List (Str × Bool) × HF) → HF
  | [], c, fs, ρ, h => .exc c fs ρ h
  | (t, f) :: r, c, fs, ρ, h => match t.lookup c with
    | some true => f c fs ρ h
    | some false => hdG r c fs ρ h
    | none => .bad
def mTryH (hs : List (List (Str × Bool) × HF)) (b : MS) : MS := fun ρ h => match b ρ h with
  | .exc c fs ρ1 h1 => hdG hs c fs ρ1 h1
  | o => o
def hOnly (s : MS) : HF := fun _ _ => s
def hKeep (i j : Nat) : HF := fun c fs ρ h => match xoOf c fs with
  | some d => .nx (((ρ.set i none).set j (some d)).set i none) h
  | none => .bad
/-- with a name: a text kept in slot k, the exception's field f in slot j -/
def hFld (cs : List Str) (i k j : Nat) (s f : Str) : HF := fun c fs ρ h => match fs with
  | [(f', v)] => if c ∈ cs ∧ f' = f then .nx ((((ρ.set i none).set k (some (.str s))).set j (some v)).set i none) h else .bad
  | _ => .bad
def HsR (X : Cx) (W : WX) (hds : List ExceptHandler) (hs : List (List (Str × Bool) × HF)) : Prop :=
  ∃ l, HdsA X hds l ∧ ∀ (E : Ends) (cls : Value) (d : Option Addr) (σ : L2.St) (H : Hp) (μ : List Addr) (ρ : Slots) (h : MH) (cn : Str) (fs : List (Str × D)),
    SR (gOf X.w X.K) H μ σ ρ → HR (gOf X.w X.K) H μ h → XR (gOf X.w X.K) H μ cls d cn fs → BkS (gOf X.w X.K) H μ (hdG hs cn fs ρ h) E W → wHd X.K W E l cls d σ H
section
variable {X : Cx} {W : WX} {x n y w f s : Str} {b0 : Stmt} {suite body : List Stmt} {qn q0 q1 q2 q3 q4 q5 q6 q7 q8 : Pos} {ms mb : MS} {tab : List (Str × Bool)} {hds : List ExceptHandler} {hd0 : ExceptHandler} {hs : List (List (Str × Bool) × HF)} {i j k kx : Nat} {cs : List Str}
end
/-! ### walks -/
section
variable {N : SP} {T : D → MH → Prop} {B C : SP} {E : SX} {ρ : Slots} {h : MH} {b s : MS} {hs : List (List (Str × Bool) × HF)} {tab : List (Str × Bool)} {f : HF} {c : Str} {fs : List (Str × D)}
def tryH (hs : List (List (Str × Bool) × HF)) (N : SP) (T : D → MH → Prop) (B C : SP) (E : SX) : SX := fun c fs ρ h => OS (hdG hs c fs ρ h) N T B C E
end
end Mi

/-! dicts with tuple keys: walked (the dict is locked from then on), read -/
namespace Mi
open PySem L2 PySem.Spec PyProof.Rows
/-- a dict with tuple keys that is locked -/
def NFrz (w : World) (H : Hp) (p : Addr) (o : Obj) (xs : NE) : Prop := H p = some (.frz o (DN w p xs))
section
variable {X : Cx} {pins : List (Addr × Obj)} {σ : L2.St} {H : Hp} {s : Shared} {p : Addr} {xs : NE} {o : Obj}
end
/-- its key objects -/
def Itn (w : World) (d : Addr) (o : Obj) (xs : NE) : L2.It :=
  ⟨fun i H => NFrz w H d o xs ∧ i < xs.length, fun i H x H' => H' = H ∧ ∃ e, xs[i]? = some e ∧ x = .ref e.2.1, fun i H => NFrz w H d o xs ∧ xs.length ≤ i⟩
/-- the dict is locked now, or was -/
def iKeysN (w : World) (td : TE) : TI := fun σ H R => td σ H fun x H1 => ∃ d xs, x = .ref d ∧ ((∃ o, NFrz w H1 d o xs ∧ R (Itn w d o xs) H1) ∨ (H1 d = some (DN w d xs) ∧ ∀ o, R (Itn w d o xs) (upd H1 d (.frz o (DN w d xs)))))
/-! ### by values -/
def mKeysT (ma : ME) : MI := fun ρ h => (ma ρ h).bind fun x h1 => match x with
  | .ref i => match h1[i]? with
    | some (.dT l) => .ok (l.map (·.1), yes) (h1.set i (.fT l))
    | some (.fT l) => .ok (l.map (·.1), yes) h1
    | _ => .bad
  | _ => .bad
section
variable {g : G} {H : Hp} {μ : List Addr}
end
section
variable {X : Cx} {W : WX} {e tg : Expr} {ma : ME}
end
/-! ### read -/
def NDctR (w : World) (H : Hp) (p : Addr) (xs : NE) : Prop := NDct w H p xs ∨ ∃ o, NFrz w H p o xs
def rFIx (K : PySem.W.Frag) (w : World) : R2 := fun x y H Q => ∃ a p k xs c u v, y = .ref a ∧ x = .ref p ∧ NkV K H k (.ref a) ∧ k.depth ≤ 8 ∧ NDctR w H p xs ∧ NKeys K H xs ∧ atKey xs k = some (c, u) ∧ RelV v u ∧ Q v H
def getR (h : MH) (x : D) : Option (List (D × D)) := match x with
  | .ref i => match h[i]? with
    | some (.dT l) => some l
    | some (.fT l) => some l
    | some (.dK []) => some []
    | _ => none
  | _ => none
def dTIx (x y : D) (h : MH) : R D := match getR h x, nkT y with
  | some l, some k => match valT l k with
    | some d => .ok d h
    | none => .bad
  | _, _ => .bad
end Mi
namespace Mi
open Lean Elab Tactic Meta PySem PySem.Calls PyProof.Rows PyProof.V PySem.Spec
/-! ### == of two such dicts -/
section
variable {prog : Program} {w : World} {K : Type} [DecidableEq K] {knd : HeapKind prog w K} {A : Around} {E : Value → Shared → Prop} {s : Shared}
inductive HitsN (A : Around) (s : Shared) (kb : List (K × Addr × Value)) : List (K × Addr × Value) → Bool → Prop
  | nil : HitsN A s kb [] true
  | miss {e : K × Addr × Value} {r : List (K × Addr × Value)} : atKey kb e.1 = none → HitsN A s kb (e :: r) false
  | hit {e : K × Addr × Value} {c : Addr} {y : Value} {r : List (K × Addr × Value)} {k b : Bool} : atKey kb e.1 = some (c, y) → SeqAt.EqAt A s e.2.2 y k → HitsN A s kb r b → HitsN A s kb (e :: r) (k && b)
end
end Mi
namespace Mi
open PySem L2 PySem.Spec PyProof.Rows
/-! ### != by values (whole numbers) -/
def valsI : List (D × D) → Bool
  | [] => true
  | (_, .int _) :: l => valsI l
  | _ => false
def eqT (l m : List (D × D)) : Bool := l.length == m.length && l.all fun p => match nkD p.1 with
  | some k => decide (valT m k = some p.2)
  | none => false
def dTNe (a b : D) (h : MH) : R D := match getR h a, getR h b with
  | some l, some m => if valsI l = true ∧ valsI m = true then .ok (.bl (!(eqT l m))) h else .bad
  | _, _ => .bad
def IntE (xs : NE) (l : List (D × D)) : Prop := ∀ (i : Nat) e, xs[i]? = some e → ∃ (p : D × D) (z : Int) (t : Tok), l[i]? = some p ∧ nkD p.1 = some e.1 ∧ p.2 = .int z ∧ e.2.2 = .int z t
def rTNe (K : PySem.W.Frag) (w : World) : R2 := fun x y H Q => ∃ p q xs ys l m, x = .ref p ∧ y = .ref q ∧ NDctR w H p xs ∧ NKeys K H xs ∧ NDctR w H q ys ∧ NKeys K H ys ∧ xs.length = l.length ∧ ys.length = m.length ∧ IntE xs l ∧ IntE ys m ∧ (∀ k, (atKey ys k = none ∧ valT m k = none) ∨ ∃ a z t, atKey ys k = some (a, .int z t) ∧ valT m k = some (.int z)) ∧ Q (.bl (!(eqT l m))) H
/-! ### get -/
def dGetT (x y z : D) (h : MH) : R D := match nkT y, getT h x with
  | some k, some l => .ok ((valT l k).getD z) h
  | _, _ => .bad
def mGetT (o e f : ME) : ME := fun ρ h => (o ρ h).bind fun x h1 => if (getT h1 x).isSome = true then (e ρ h1).bind fun y h2 => (f ρ h2).bind fun z h3 => dGetT x y z h3 else .bad
section
variable {X : Cx} {W : WX} {o e f : Expr} {mo me mf : ME} {apos cpos : Pos}
end
/-! ### >= of pairs of whole numbers -/
def rGeP (K : PySem.W.Frag) : R2 := fun x y H Q => ∃ b c, PairV K H x b ∧ PairV K H y c ∧ Q (.bl (!ltP b c)) H
def dGeP (a b : D) (h : MH) : R D := match a, b with
  | .tup [.int i, .int j], .tup [.int k, .int l] => .ok (.bl (!ltP (i, j) (k, l))) h
  | _, _ => .bad
/-! ### walks -/
section
variable {Q : D → MH → Prop} {E : XE} {h : MH} {ρ : Slots}
end
end Mi

/-! `k not in d` of a dict with tuple keys that may be locked -/
namespace Mi
open PySem L2 PySem.Spec PyProof.Rows
def rNotInR (K : PySem.W.Frag) (w : World) : R2 := fun x y H Q => ∃ a p k xs, x = .ref a ∧ y = .ref p ∧ NkV K H k (.ref a) ∧ k.depth ≤ 8 ∧ NDctR w H p xs ∧ NKeys K H xs ∧ Q (.bl (!(atKey xs k).isSome)) H
def dRNotIn (a b : D) (h : MH) : R D := match nkT a, getR h b with
  | some k, some l => .ok (.bl (!(valT l k).isSome)) h
  | _, _ => .bad
end Mi

/-! len(set(xs)) of a list of tuples of whole numbers -/
namespace Mi
open PySem L2 PySem.Spec PyProof.Rows
def intsD50 : List D → Option (List Int)
  | [] => some []
  | .int i :: l => (intsD50 l).map (i :: ·)
  | _ => none
def tupsD50 : List D → Option (List (List Int))
  | [] => some []
  | .tup ds :: l => match intsD50 ds, tupsD50 l with
    | some k, some r => some (k :: r)
    | _, _ => none
  | _ => none
def mLenSetT (a : ME) : ME := fun ρ h => (a ρ h).bind fun x h1 => match x with
  | .ref i => match (getL h1 i).bind tupsD50 with
    | some ks => if ks.length < 64 then .ok (.int ks.eraseDups.length) h1 else .bad
    | none => .bad
  | _ => .bad
section
variable {g : G} {H : Hp} {μ : List Addr}
end
section
variable {X : Cx} {g : G} {W : WX} {ma : ME} {a : Expr} {p p2 q pos : Pos}
end
def dLenSetT : List D → MH → R D
  | [x], h1 => match x with
    | .ref i => match (getL h1 i).bind tupsD50 with
      | some ks => if ks.length < 64 then .ok (.int ks.eraseDups.length) h1 else .bad
      | none => .bad
    | _ => .bad
  | _, _ => .bad
section
variable {X : Cx} {g : G} {W : WX} {ma : ME} {a : Expr} {p p2 q pos : Pos}
end
end Mi

/-! for k, v in d.items(), d a dict with tuple keys (the dict is locked from then on) -/
namespace Mi
open PySem L2 PySem.Spec PyProof.Rows
/-- its entries, each in a new pair -/
def Itn2 (w : World) (d : Addr) (o : Obj) (xs : NE) (vs : List V) : L2.It :=
  ⟨fun i H => NFrz w H d o xs ∧ i < xs.length, fun i H x H' => ∃ T e v, xs[i]? = some e ∧ vs[i]? = some v ∧ x = .ref T ∧ H T = none ∧ H' = upd H T (.tup [.ref e.2.1, v]), fun i H => NFrz w H d o xs ∧ xs.length ≤ i⟩
def iItemsN (w : World) (td : TE) : TI := fun σ H R => td σ H fun x H1 => ∃ d xs vs, x = .ref d ∧ Vals vs (xs.map (·.2.2)) ∧ ((∃ o, NFrz w H1 d o xs ∧ R (Itn2 w d o xs vs) H1) ∨ (H1 d = some (DN w d xs) ∧ ∀ o, R (Itn2 w d o xs vs) (upd H1 d (.frz o (DN w d xs)))))
/-! ### by values -/
def itmT (l : List (D × D)) : List D := l.map fun e => .tup [e.1, e.2]
def mItemsT (ma : ME) : MI := fun ρ h => (ma ρ h).bind fun x h1 => match x with
  | .ref i => match h1[i]? with
    | some (.dT l) => .ok (itmT l, yes) (h1.set i (.fT l))
    | some (.fT l) => .ok (itmT l, yes) h1
    | _ => .bad
  | _ => .bad
section
variable {g : G} {H : Hp} {μ : List Addr}
end
section
variable {X : Cx} {W : WX} {e : Expr} {ma : ME} {apos cpos : Pos} {elts : List Expr} {kk : Nat} {tpos : Pos}
end
end Mi

/-! len(d), d a dict with tuple keys -/
namespace Mi
open PySem L2 PySem.Spec PyProof.Rows
def rLenN (K : PySem.W.Frag) (w : World) : List V → Hp → VK → Prop := fun xs H Q => ∃ (p : Addr) (ys : NE), xs = [.ref p] ∧ NDct w H p ys ∧ NKeys K H ys ∧ Q (.int ((ys.length : Nat) : Int)) H
def dLenN : List D → MH → R D
  | [x], h => match getN h x with
    | some l => .ok (.int l.length) h
    | none => .bad
  | _, _ => .bad
end Mi

/-! a, b, c = x, y, z with plain local names -/
namespace Mi
open PySem L2
def par3 (i j l : Nat) (ρ : Slots) (ds : List D) (h : MH) : Out := match ds with
  | [a, b, c] => .nx (((ρ.set i (some a)).set j (some b)).set l (some c)) h
  | _ => .bad
def mPar3 (i j l : Nat) (r : MA) : MS := fun ρ h => (r ρ h).out ρ fun ds h1 => par3 i j l ρ ds h1
end Mi

/-! list.count of texts -/
namespace Mi
open PySem L2 PySem.Spec PyProof.Rows
def rCntT (K : PySem.W.Frag) : V → List V → Hp → VK → Prop := fun x xs H Q => ∃ (p : Addr) (ns : List Str) (k : Str), x = .ref p ∧ xs = [.str k] ∧ SqL K H p (ns.map V.str) ∧ Q (.int (ns.count k : Nat)) H
section
variable {X : Cx}
end
def dLCountT : D → List D → MH → R D
  | .ref i, [.str k], h => match (getL h i).bind allStr with
    | some ns => .ok (.int (ns.count k : Nat)) h
    | none => .bad
  | _, _, _ => .bad
section
variable {g : G}
end
section
variable {h : MH} {Q : D → MH → Prop} {E : XE}
end
end Mi

/-! str.partition(sep) -/
namespace Mi
open PySem PySem.Spec PyProof.Rows L2
def rPartF : V → List V → Hp → VK → Prop := fun x xs H Q => ∃ a b, x = .str a ∧ xs = [.str b] ∧ (b.length == 0) = false ∧ a.length ≤ sizeLine ∧
    ∀ (p : Addr) (ob : Obj), H p = none → ob.dict = none → Q (.ref p) (upd H p (.frz ob (.tup [.str (Txt.partition a b).1, .str (Txt.partition a b).2.1, .str (Txt.partition a b).2.2])))
section
variable {X : Cx} {pins : List (Addr × Obj)} {s : Shared} {σ : L2.St} {H : Hp} {Q : VK}
end
def dPart : D → List D → MH → R D
  | .str a, [.str b], h => if (b.length == 0) = false ∧ a.length ≤ 900000 then .ok (.tup [.str (Txt.partition a b).1, .str (Txt.partition a b).2.1, .str (Txt.partition a b).2.2]) h else .bad
  | _, _, _ => .bad
section
variable {g : G}
end
section
variable {h : MH} {Q : D → MH → Prop} {E : XE} {x y : Str}
end
end Mi

/-! len(d), d a dict with int or text keys -/
namespace Mi
open PySem L2 PySem.Spec PyProof.Rows
def rLenK : List V → Hp → VK → Prop := fun xs H Q => ∃ a kvs, xs = [V.ref a] ∧ H a = some (.dK kvs) ∧ Q (.int kvs.length) H
def dLenK : List D → MH → R D
  | [x], h => match getK h x with
    | some l => .ok (.int l.length) h
    | none => .bad
  | _, _ => .bad
end Mi

/-! sorted of a list of tuples of whole numbers, of any lengths, whose first is () -/
namespace PySem.W
open PySem PySem.Calls PySem.SeqAt PyProof.Rows
section
variable {M : Model} {A : Around} {E : Value → Shared → Prop} {s : Shared}
end
section
variable {prog : Program} {w : World} {A : Around} {s : Shared} {E : Value → Shared → Prop} {β : Type} {vs : List Value} {bs : List β} {enc : β → PyData} {R : Value → β → Prop}
end
end PySem.W
namespace Mi
open PySem L2 PySem.Spec PyProof.Rows
def tupTI (b : List Int) : D := .tup (b.map .int)
def encTI (b : List Int) : PyData := .tuple (b.map .int)
def sortTI (l : List (List Int)) : List (List Int) := l.mergeSort fun p q => decide (p ≤ q)
def TupV (K : PySem.W.Frag) (H : Hp) (x : V) (b : List Int) : Prop := ∃ q, x = .ref q ∧ Tk K H q (b.map V.int)
abbrev TupsV (K : PySem.W.Frag) (H : Hp) : List V → List (List Int) → Prop := PySem.W.EachIs (TupV K H)
def rSortTI (K : PySem.W.Frag) : List V → Hp → VK → Prop := fun xs H Q => ∃ p ys bs, xs = [V.ref p] ∧ SqL K H p ys ∧ TupsV K H ys ([] :: bs) ∧ ∀ zs r, TupsV K H zs (sortTI ([] :: bs)) → H r = none → Q (.ref r) (upd H r (.lst zs))
section
variable {X : Cx} {pins : List (Addr × Obj)} {σ : L2.St} {H : Hp} {s : Shared}
end
def dSortTI : List D → MH → R D
  | [x], h => match x with
    | .ref i => match getL h i with
      | some l => match tupsD50 l with
        | some ([] :: ps) => .ok (.ref h.length) (h ++ [.lst ((sortTI ([] :: ps)).map tupTI)])
        | _ => .bad
      | none => .bad
    | _ => .bad
  | _, _ => .bad
end Mi

/-! a[i], b[j] = e, where e is a tuple of two -/
namespace Mi
open PySem L2 PySem.Spec PyProof.Rows
def mSet2 (o1 i1 o2 i2 e : ME) : MS := fun ρ h => (e ρ h).out ρ fun d h1 => match d with
  | .tup [x, y] => (o1 ρ h1).out ρ fun a h2 => (i1 ρ h2).out ρ fun b h3 => (dSet a b x h3).out ρ fun _ h4 => (o2 ρ h4).out ρ fun a' h5 => (i2 ρ h5).out ρ fun b' h6 => (dSet a' b' y h6).out ρ fun _ h7 => .nx ρ h7
  | _ => .bad
section
variable {X : Cx} {g : G} {W : WX} {o1 i1 o2 i2 e tg : Expr} {mo1 mi1 mo2 mi2 me : ME} {pos p1 p2 p3 : Pos} {k : Nat}
end
section
variable {a1 b1 a2 b2 e : ME} {ρ : Slots} {h : MH} {N B C : SP} {T : D → MH → Prop} {E : SX}
end
end Mi
namespace Mi
open PySem L2
def m_firsts_3d5cc : List D → MH → R D := mFun 2 6
 (mSeq (mAsg 2 (mCall (m_turner_aa784) (mCons (mVar 0) (mCons (mC (.int 1)) (mCons (mC (.int 8)) (mCons (mVar 1) (mCons (mC (.int 3)) (mNil))))))))
 (mSeq (mAsg 3 (mCall (m_tape_92891) (mCons (mCall (m_cell_at_2c4cb) (mCons (mVar 0) (mCons (mC (.int 21)) (mNil)))) (mCons (mC (.int 20)) (mNil)))))
 (mSeq (mIf (mAnd (mB (mBin dEq (mCall (m_next_fea17) (mCons (mVar 3) (mCons (mC (.int 3)) (mNil)))) (mC (.int 0)))) (mB (mBin dGt (mCall dLen (mCons (mVar 2) (mNil))) (mC (.int 0)))))
 (mSeq (mAsg 4 (mTup (mCons (mC (.str (Str.ofString "*"))) (mNil))))
 (mSeq (mFor (mRange1 (mCall (m_next_fea17) (mCons (mVar 3) (mCons (mC (.int 8)) (mNil))))) (mgName 5)
 (mSeq (mAsg 4 (mTup (mCons (mTup (mCons (mBin dIx (mVar 1) (mCall (m_next_fea17) (mCons (mVar 3) (mCons (mC (.int 9)) (mNil))))) (mCons (mVar 4) (mNil)))) (mNil))))
 (mIf (mB (mBin dEq (mCall (m_next_fea17) (mCons (mVar 3) (mCons (mC (.int 2)) (mNil)))) (mC (.int 0))))
 (mAsg 4 (mBin dAdd (mVar 4) (mTup (mCons (mC (.str (Str.ofString "*"))) (mNil)))))
 (mSkip))))
 (mAsg 2 (mBin dAdd (mTup (mCons (mTup (mCons (mBin dIx (mBin dIx (mVar 2) (mC (.int 0))) (mC (.int 0))) (mCons (mVar 4) (mNil)))) (mNil))) (mSl (mVar 2) (mSome (mC (.int 1))) (mNo))))))
 (mSkip))
 (mRet (mVar 2)))))
def m_deep_c9d37 : Nat → List D → MH → R D
 | 0 => fun _ _ => .bad
 | n + 1 => mFun 2 4
    (mSeq (mAsg 2 (mC (.int 0)))
     (mSeq (mFor (mIter (mVar 0)) (mgName 3)
     (mIf (mB (mBin dEq (mVar 3) (mC (.str (Str.ofString "*")))))
     (mAsg 2 (mCall dMax (mCons (mVar 2) (mCons (mVar 1) (mNil)))))
     (mAsg 2 (mCall dMax (mCons (mVar 2) (mCons (mBin dAdd (mC (.int 1)) (mCall (m_deep_c9d37 n) (mCons (mBin dIx (mVar 3) (mC (.int 1))) (mCons (mVar 1) (mNil))))) (mNil)))))))
     (mRet (mVar 2))))
def m_counts_fd1bc : Nat → List D → MH → R D
 | 0 => fun _ _ => .bad
 | n + 1 => mFun 2 8
    (mSeq (mAsg 2 (mC (.int 0)))
     (mSeq (mAsg 3 (mC (.int 0)))
     (mSeq (mFor (mIter (mVar 0)) (mgName 4)
     (mSeq (mAsg 5 (mTup (mCons (mC (.int 1)) (mCons (mC (.int 1)) (mNil)))))
     (mSeq (mIf (mB (mBin dNe (mVar 4) (mC (.str (Str.ofString "*")))))
     (mSeq (mAsg 6 (mCall (m_counts_fd1bc n) (mCons (mBin dIx (mVar 4) (mC (.int 1))) (mCons (mVar 1) (mNil)))))
     (mSeq (mAsg 7 (mCall (m_for_39fc1) (mCons (mVar 1) (mCons (mBin dIx (mVar 4) (mC (.int 0))) (mNil)))))
     (mSeq (mAsg 5 (mTup (mCons (mBin dAdd (mC (.int 1)) (mBin dIx (mVar 6) (mC (.int 0)))) (mCons (mBin dAdd (mC (.int 1)) (mBin dIx (mVar 6) (mC (.int 1)))) (mNil)))))
     (mIf (mB (mBin dNe (mVar 7) (mTup (mCons (mBin dIx (mVar 4) (mC (.int 0))) (mNil)))))
     (mAsg 5 (mTup (mCons (mCall (m_size_05894 100) (mCons (mVar 7) (mCons (mBin dIx (mVar 6) (mC (.int 0))) (mNil)))) (mCons (mCall (m_deep_c9d37 100) (mCons (mVar 7) (mCons (mBin dIx (mVar 6) (mC (.int 1))) (mNil)))) (mNil)))))
     (mSkip)))))
     (mSkip))
     (mSeq (mAsg 2 (mBin dAdd (mVar 2) (mBin dIx (mVar 5) (mC (.int 0)))))
     (mAsg 3 (mCall dMax (mCons (mVar 3) (mCons (mBin dIx (mVar 5) (mC (.int 1))) (mNil)))))))))
     (mRet (mTup (mCons (mVar 2) (mCons (mVar 3) (mNil))))))))
def m_chained_size_ac0f3 : Nat → List D → MH → R D
 | 0 => fun _ _ => .bad
 | n + 1 => mFun 2 6
    (mSeq (mAsg 2 (mC (.int 0)))
     (mSeq (mFor (mIter (mVar 0)) (mgName 3)
     (mIf (mB (mBin dEq (mVar 3) (mC (.str (Str.ofString "*")))))
     (mAsg 2 (mBin dAdd (mVar 2) (mC (.int 1))))
     (mSeq (mAsg 4 (mCall (m_chained_size_ac0f3 n) (mCons (mBin dIx (mVar 3) (mC (.int 1))) (mCons (mVar 1) (mNil)))))
     (mSeq (mAsg 5 (mCall (m_items_for_2ec27) (mCons (mVar 1) (mCons (mBin dIx (mVar 3) (mC (.int 0))) (mNil)))))
     (mIf (mB (mBin dIsN (mVar 5) (mC .non)))
     (mAsg 2 (mBin dAdd (mBin dAdd (mVar 2) (mC (.int 1))) (mVar 4)))
     (mAsg 2 (mBin dAdd (mVar 2) (mCall (m_filled_size_5412a 100) (mCons (mVar 5) (mCons (mVar 4) (mNil)))))))))))
     (mRet (mVar 2))))
def m_filled_depth_8b70f : Nat → List D → MH → R D
 | 0 => fun _ _ => .bad
 | n + 1 => mFun 2 4
    (mSeq (mAsg 2 (mC (.int 0)))
     (mSeq (mFor (mIter (mVar 0)) (mgName 3)
     (mIf (mB (mBin dEq (mVar 3) (mC (.str (Str.ofString "*")))))
     (mAsg 2 (mCall dMax (mCons (mVar 2) (mCons (mVar 1) (mNil)))))
     (mAsg 2 (mCall dMax (mCons (mVar 2) (mCons (mBin dAdd (mC (.int 1)) (mCall (m_filled_depth_8b70f n) (mCons (mBin dIx (mVar 3) (mC (.int 1))) (mCons (mVar 1) (mNil))))) (mNil)))))))
     (mRet (mVar 2))))
def m_chained_depth_b220a : Nat → List D → MH → R D
 | 0 => fun _ _ => .bad
 | n + 1 => mFun 2 6
    (mSeq (mAsg 2 (mC (.int 0)))
     (mSeq (mFor (mIter (mVar 0)) (mgName 3)
     (mIf (mB (mBin dEq (mVar 3) (mC (.str (Str.ofString "*")))))
     (mAsg 2 (mCall dMax (mCons (mVar 2) (mCons (mC (.int 1)) (mNil)))))
     (mSeq (mAsg 4 (mCall (m_chained_depth_b220a n) (mCons (mBin dIx (mVar 3) (mC (.int 1))) (mCons (mVar 1) (mNil)))))
     (mSeq (mAsg 5 (mCall (m_items_for_2ec27) (mCons (mVar 1) (mCons (mBin dIx (mVar 3) (mC (.int 0))) (mNil)))))
     (mIf (mB (mBin dIsN (mVar 5) (mC .non)))
     (mAsg 2 (mCall dMax (mCons (mVar 2) (mCons (mBin dAdd (mC (.int 1)) (mVar 4)) (mNil)))))
     (mAsg 2 (mCall dMax (mCons (mVar 2) (mCons (mCall (m_filled_depth_8b70f 100) (mCons (mVar 5) (mCons (mVar 4) (mNil)))) (mNil))))))))))
     (mRet (mVar 2))))
def m_chained_items_6a3ab : Nat → List D → MH → R D
 | 0 => fun _ _ => .bad
 | n + 1 => mFun 2 5
    (mSeq (mAsg 2 (mLst (mNil)))
     (mSeq (mFor (mIter (mVar 0)) (mgName 3)
     (mIf (mB (mBin dEq (mVar 3) (mC (.str (Str.ofString "*")))))
     (mDrop (mMeth isListD dAppend (mVar 2) (mCons (mVar 3) (mNil))))
     (mSeq (mAsg 4 (mCall (m_items_for_2ec27) (mCons (mVar 1) (mCons (mBin dIx (mVar 3) (mC (.int 0))) (mNil)))))
     (mIf (mB (mBin dIsN (mVar 4) (mC .non)))
     (mDrop (mMeth isListD dAppend (mVar 2) (mCons (mTup (mCons (mBin dIx (mVar 3) (mC (.int 0))) (mCons (mCall (m_chained_items_6a3ab n) (mCons (mBin dIx (mVar 3) (mC (.int 1))) (mCons (mVar 1) (mNil)))) (mNil)))) (mNil))))
     (mIf (mB (mCall (m_has_hole_6be3c 100) (mCons (mVar 4) (mNil))))
     (mDrop (mMeth isListD dExtend (mVar 2) (mCons (mCall dList (mCons (mCall (m_filled_1058b 100) (mCons (mVar 4) (mCons (mCall (m_chained_items_6a3ab n) (mCons (mBin dIx (mVar 3) (mC (.int 1))) (mCons (mVar 1) (mNil)))) (mNil)))) (mNil))) (mNil))))
     (mDrop (mMeth isListD dExtend (mVar 2) (mCons (mCall dList (mCons (mVar 4) (mNil))) (mNil)))))))))
     (mRet (mCall dTuple (mCons (mVar 2) (mNil))))))
def m_chained_3458f : List D → MH → R D := mFun 2 4
 (mSeq (mAsg 2 (mCall dList (mCons (mVar 0) (mNil))))
 (mSeq (mFor (mIter (mVar 1)) (mgName 3)
 (mIf (mB (mBin dIsN (mCall (m_items_for_2ec27) (mCons (mVar 0) (mCons (mBin dIx (mVar 3) (mC (.int 0))) (mNil)))) (mC .non)))
 (mDrop (mMeth isListD dAppend (mVar 2) (mCons (mTup (mCons (mBin dIx (mVar 3) (mC (.int 0))) (mCons (mTup (mCons (mTup (mCons (mBin dIx (mVar 3) (mC (.int 0))) (mCons (mTup (mCons (mC (.str (Str.ofString "*"))) (mNil))) (mNil)))) (mNil))) (mNil)))) (mNil))))
 (mSkip)))
 (mSeq (mIf (mB (mBin dGt (mCall dLen (mCons (mVar 2) (mNil))) (mC (.int 12))))
 (mRaise0 (Str.ofString "TooMany"))
 (mSkip))
 (mSeq (mFor (mIter (mVar 2)) (mgName 3)
 (mIf (mOr (mB (mBin dGt (mCall (m_chained_size_ac0f3 100) (mCons (mBin dIx (mVar 3) (mC (.int 1))) (mCons (mVar 1) (mNil)))) (mC (.int 40)))) (mB (mBin dGt (mCall (m_chained_depth_b220a 100) (mCons (mBin dIx (mVar 3) (mC (.int 1))) (mCons (mVar 1) (mNil)))) (mC (.int 8)))))
 (mRaise0 (Str.ofString "TooMany"))
 (mSkip)))
 (mRet (mCall dTuple (mCons (mLc (mIter (mVar 2)) (mgName 3) (mYes) (mTup (mCons (mBin dIx (mVar 3) (mC (.int 0))) (mCons (mCall (m_chained_items_6a3ab 100) (mCons (mBin dIx (mVar 3) (mC (.int 1))) (mCons (mVar 1) (mNil)))) (mNil)))) [3]) (mNil))))))))
def m_plain_f8b51 : List D → MH → R D := mFun 1 2
 (mSeq (mFor (mIter (mLst (mCons (mC (.str (Str.ofString "zz"))) (mCons (mC (.str (Str.ofString "z"))) (mCons (mC (.str (Str.ofString "zzz"))) (mCons (mC (.str (Str.ofString "zzzz"))) (mNil))))))) (mgName 1)
 (mIf (mB (mBin dNotIn (mVar 1) (mVar 0)))
 (mRet (mVar 1))
 (mSkip)))
 (mRet (mC (.str (Str.ofString "zzzzzzzz")))))
def m_items_ok_00e70 : Nat → List D → MH → R D
 | 0 => fun _ _ => .bad
 | n + 1 => mFun 1 2
    (mSeq (mIf (mNot (mB (mIsi "tuple" (mVar 0))))
     (mRet (mC (.bl false)))
     (mSkip))
     (mSeq (mFor (mIter (mVar 0)) (mgName 1)
     (mIf (mB (mIsi "str" (mVar 1)))
     (mIf (mB (mBin dNe (mVar 1) (mC (.str (Str.ofString "*")))))
     (mRet (mC (.bl false)))
     (mSkip))
     (mIf (mOr (mNot (mB (mIsi "tuple" (mVar 1)))) (mOr (mB (mBin dNe (mCall dLen (mCons (mVar 1) (mNil))) (mC (.int 2)))) (mNot (mB (mIsi "str" (mBin dIx (mVar 1) (mC (.int 0))))))))
     (mRet (mC (.bl false)))
     (mIf (mNot (mB (mCall (m_items_ok_00e70 n) (mCons (mBin dIx (mVar 1) (mC (.int 1))) (mNil)))))
     (mRet (mC (.bl false)))
     (mSkip)))))
     (mRet (mC (.bl true)))))
def m_told_ok_bc759 : List D → MH → R D := mFun 2 3
 (mSeq (mIf (mOr (mNot (mB (mIsi "tuple" (mVar 0)))) (mB (mBin dNe (mCall dLen (mCons (mVar 0) (mNil))) (mCall dLen (mCons (mVar 1) (mNil))))))
 (mRet (mC (.bl false)))
 (mSkip))
 (mSeq (mFor (mRange1 (mCall dLen (mCons (mVar 1) (mNil)))) (mgName 2)
 (mSeq (mIf (mOr (mNot (mB (mIsi "tuple" (mBin dIx (mVar 0) (mVar 2))))) (mB (mBin dNe (mCall dLen (mCons (mBin dIx (mVar 0) (mVar 2)) (mNil))) (mC (.int 2)))))
 (mRet (mC (.bl false)))
 (mSkip))
 (mIf (mOr (mNot (mB (mCall (m_same_3d8da 170) (mCons (mBin dIx (mBin dIx (mVar 0) (mVar 2)) (mC (.int 0))) (mCons (mBin dIx (mVar 1) (mVar 2)) (mNil)))))) (mNot (mB (mCall (m_items_ok_00e70 100) (mCons (mBin dIx (mBin dIx (mVar 0) (mVar 2)) (mC (.int 1))) (mNil))))))
 (mRet (mC (.bl false)))
 (mSkip))))
 (mRet (mC (.bl true)))))
def m_turn_d7ca0 : Nat → List D → MH → R D
 | 0 => fun _ _ => .bad
 | n + 1 => mFun 2 5
    (mSeq (mAsg 2 (mLst (mNil)))
     (mSeq (mFor (mIter (mBin dIx (mVar 1) (mC (.int 1)))) (mgName 3)
     (mDrop (mMeth isListD dExtend (mVar 2) (mCons (mCall (m_turn_d7ca0 n) (mCons (mVar 0) (mCons (mVar 3) (mNil)))) (mNil)))))
     (mSeq (mAsg 4 (mCall (m_for_39fc1) (mCons (mVar 0) (mCons (mBin dIx (mVar 1) (mC (.int 0))) (mNil)))))
     (mSeq (mIf (mB (mBin dEq (mVar 4) (mTup (mCons (mBin dIx (mVar 1) (mC (.int 0))) (mNil)))))
     (mRet (mLst (mCons (mTup (mCons (mBin dIx (mVar 1) (mC (.int 0))) (mCons (mCall dTuple (mCons (mVar 2) (mNil))) (mNil)))) (mNil))))
     (mSkip))
     (mRet (mCall (m_full_cf168 100) (mCons (mVar 4) (mCons (mVar 2) (mNil)))))))))
def m_weight_cea8b : Nat → List D → MH → R D
 | 0 => fun _ _ => .bad
 | n + 1 => mFun 2 7
    (mSeq (mAsg 2 (mC (.int 0)))
     (mSeq (mAsg 3 (mC (.int 0)))
     (mSeq (mFor (mIter (mBin dIx (mVar 1) (mC (.int 1)))) (mgName 4)
     (mSeq (mAsg 6 (mCall (m_weight_cea8b n) (mCons (mVar 0) (mCons (mVar 4) (mNil)))))
     (mSeq (mAsg 2 (mBin dAdd (mVar 2) (mBin dIx (mVar 6) (mC (.int 0)))))
     (mAsg 3 (mCall dMax (mCons (mVar 3) (mCons (mBin dIx (mVar 6) (mC (.int 1))) (mNil))))))))
     (mSeq (mAsg 5 (mCall (m_for_39fc1) (mCons (mVar 0) (mCons (mBin dIx (mVar 1) (mC (.int 0))) (mNil)))))
     (mSeq (mAsg 2 (mBin dAdd (mC (.int 1)) (mVar 2)))
     (mSeq (mIf (mB (mBin dNe (mVar 5) (mTup (mCons (mBin dIx (mVar 1) (mC (.int 0))) (mNil)))))
     (mAsg 2 (mCall (m_size_05894 100) (mCons (mVar 5) (mCons (mBin dSub (mVar 2) (mC (.int 1))) (mNil)))))
     (mSkip))
     (mRet (mTup (mCons (mVar 2) (mCons (mCall dMax (mCons (mVar 3) (mCons (mVar 2) (mNil)))) (mNil)))))))))))
def m_agree_cecf8 : List D → MH → R D := mFun 4 7
 (mSeq (mIf (mB (mBin dGt (mCall dMax (mCons (mBin dIx (mCall (m_weight_cea8b 100) (mCons (mVar 0) (mCons (mVar 3) (mNil)))) (mC (.int 1))) (mCons (mBin dIx (mCall (m_weight_cea8b 100) (mCons (mVar 2) (mCons (mVar 3) (mNil)))) (mC (.int 1))) (mNil)))) (mC (.int 400))))
 (mRet (mC (.bl true)))
 (mSkip))
 (mSeq (mAsg 4 (mCall (m_turn_d7ca0 100) (mCons (mVar 0) (mCons (mVar 3) (mNil)))))
 (mSeq (mAsg 5 (mLst (mNil)))
 (mSeq (mFor (mIter (mVar 4)) (mgName 6)
 (mSeq (mIf (mB (mBin dGt (mBin dIx (mCall (m_weight_cea8b 100) (mCons (mVar 1) (mCons (mVar 6) (mNil)))) (mC (.int 1))) (mC (.int 400))))
 (mRet (mC (.bl true)))
 (mSkip))
 (mDrop (mMeth isListD dExtend (mVar 5) (mCons (mCall (m_turn_d7ca0 100) (mCons (mVar 1) (mCons (mVar 6) (mNil)))) (mNil))))))
 (mRet (mCall (m_same_3d8da 170) (mCons (mCall dTuple (mCons (mCall (m_turn_d7ca0 100) (mCons (mVar 2) (mCons (mVar 3) (mNil)))) (mNil))) (mCons (mCall dTuple (mCons (mVar 5) (mNil))) (mNil)))))))))
def m_law_d94d6 : List D → MH → R D := mFun 1 20
 (mSeq (mAsg 1 (mCall (m_names_c11ae) (mCons (mCall (m_cell_at_2c4cb) (mCons (mVar 0) (mCons (mC (.int 0)) (mNil)))) (mNil))))
 (mSeq (mAsg 2 (mBin dIx (mLst (mCons (mVar 1) (mCons (mLc (mIter (mC (.str (Str.ofString "bdfhjlnpr")))) (mgName 18) (mYes) (mBin dAdd (mVar 18) (mC (.str (Str.ofString "x")))) [18]) (mNil)))) (mBin dMod (mCall (m_cell_at_2c4cb) (mCons (mVar 0) (mCons (mC (.int 20)) (mNil)))) (mC (.int 2)))))
 (mSeq (mAsg 3 (mCall (m_firsts_3d5cc) (mCons (mVar 0) (mCons (mVar 1) (mNil)))))
 (mSeq (mAsg 4 (mCall (m_turner_aa784) (mCons (mVar 0) (mCons (mC (.int 11)) (mCons (mC (.int 8)) (mCons (mVar 2) (mCons (mC (.int 3)) (mNil))))))))
 (mSeq (mAsg 5 (mBin dAdd (mLc (mIter (mVar 3)) (mgName 14) (mYes) (mBin dIx (mVar 14) (mC (.int 0))) [14]) (mLc (mIter (mVar 4)) (mgName 14) (mB (mBin dEq (mCall (m_for_39fc1) (mCons (mVar 3) (mCons (mBin dIx (mVar 14) (mC (.int 0))) (mNil)))) (mTup (mCons (mBin dIx (mVar 14) (mC (.int 0))) (mNil))))) (mBin dIx (mVar 14) (mC (.int 0))) [14])))
 (mSeq (mAsg 6 (mLc (mIter (mVar 3)) (mgName 14) (mYes) (mCall (m_counts_fd1bc 100) (mCons (mBin dIx (mVar 14) (mC (.int 1))) (mCons (mVar 4) (mNil)))) [14]))
 (mSeq (mAsg 7 (mOrV (mBin dGt (mCall dLen (mCons (mVar 5) (mNil))) (mC (.int 12))) (mCall dAny (mCons (mLc (mIter (mVar 6)) (mgName 19) (mYes) (mOrV (mBin dGt (mBin dIx (mVar 19) (mC (.int 0))) (mC (.int 40))) (mBin dGt (mBin dIx (mVar 19) (mC (.int 1))) (mC (.int 8)))) [19]) (mNil)))))
 (mSeq (mAsg 8 (mC .non))
 (mSeq (mAsg 9 (mC .non))
 (mSeq (mTryK [((Str.ofString "TooMany"), true)] 10 8 (mAsg 9 (mCall (m_chained_3458f) (mCons (mVar 3) (mCons (mVar 4) (mNil))))))
 (mSeq (mIf (mB (mVar 7))
 (mSeq (mIf (mOr (mNot (mB (mIsX [((Str.ofString "TooMany"), true)] (mVar 8)))) (mNot (mB (mIsX [((Str.ofString "TooMany"), true)] (mVar 8)))))
 (mRet (mC (.bl false)))
 (mSkip))
 (mRet (mNotV (mIsX [((Str.ofString "TooMany"), false)] (mVar 8)))))
 (mSkip))
 (mSeq (mIf (mOr (mB (mBin dNotN (mVar 8) (mC .non))) (mNot (mB (mCall (m_told_ok_bc759) (mCons (mVar 9) (mCons (mVar 5) (mNil)))))))
 (mRet (mC (.bl false)))
 (mSkip))
 (mSeq (mAsg 11 (mTup (mCons (mCall (m_plain_f8b51) (mCons (mBin dAdd (mVar 1) (mVar 2)) (mNil))) (mCons (mTup (mNil)) (mNil)))))
 (mSeq (mAsg 12 (mBin dAdd (mLc (mIter (mVar 5)) (mgName 16) (mYes) (mTup (mCons (mVar 16) (mCons (mTup (mCons (mVar 11) (mNil))) (mNil)))) [16]) (mLc (mIter (mVar 5)) (mgName 16) (mYes) (mTup (mCons (mVar 16) (mCons (mTup (mCons (mVar 11) (mCons (mVar 11) (mNil)))) (mNil)))) [16])))
 (mSeq (mAsg 13 (mLc (mRange1 (mCall dMax (mCons (mC (.int 1)) (mCons (mCall dMin (mCons (mC (.int 8)) (mCons (mBin dSub (mCall dLen (mCons (mVar 0) (mNil))) (mC (.int 22))) (mNil)))) (mNil))))) (mgName 15) (mYes) (mCall (m_cell_at_2c4cb) (mCons (mVar 0) (mCons (mBin dAdd (mC (.int 22)) (mVar 15)) (mNil)))) [15]))
 (mSeq (mDrop (mMeth isListD dExtend (mVar 12) (mCons (mBin dIx (mCall (m_free_docs_275c6) (mCons (mVar 13) (mCons (mBin dAdd (mSl (mVar 1) (mNo) (mSome (mC (.int 5)))) (mSl (mVar 2) (mNo) (mSome (mC (.int 4))))) (mNil)))) (mC (.int 0))) (mNil))))
 (mRet (mCall dAll (mCons (mLc (mIter (mVar 12)) (mgName 17) (mYes) (mCall (m_agree_cecf8) (mCons (mVar 3) (mCons (mVar 4) (mCons (mVar 9) (mCons (mVar 17) (mNil)))))) [17]) (mNil))))))))))))))))))))
end Mi
namespace Mi
open PySem L2
local macro_rules | `(tactic| walk_at "w") => `(tactic| first
  | with_reducible refine w_asgT ?_
  | with_reducible refine w_eq (isi_str_str _ _) ?_
  | with_reducible refine w_eq (isi_int_int _ _) ?_
  | with_reducible refine w_eq (isi_tup_tup _ _) ?_)
local macro_rules | `(tactic| walk_at "w") => `(tactic| first
  | with_reducible refine w_un ?_
  | with_reducible refine w_rev1 ?_
  | with_reducible refine w_rev2 ?_
  | with_reducible refine w_chain ?_
  | with_reducible refine w_chK ?_
  | with_reducible refine w_retN ?_
  | with_reducible refine w_brk ?_
  | with_reducible refine w_cont ?_)
local macro_rules | `(tactic| walk_at "w") => `(tactic| first
  | with_reducible refine w_notV ?_
  | with_reducible refine w_andK ?_
  | with_reducible refine w_orK ?_
  | with_reducible refine w_notK ?_
  | with_reducible refine w_revL ?_
  | with_reducible refine w_listRg1 ?_
  | with_reducible refine w_tindex ?_
  | with_reducible refine w_setIx ?_)
local macro_rules | `(tactic| walk_at "w") => `(tactic| first
  | with_reducible refine w_some ?_
  | with_reducible refine w_unI ?_
  | with_reducible refine w_meth ?_
  | with_reducible refine w_isi ?_
  | with_reducible refine w_zip ?_
  | with_reducible refine w_ifE ?_
  | with_reducible refine w_andV ?_
  | with_reducible refine w_orV ?_)
local macro_rules | `(tactic| walk_at "w") => `(tactic| first
  | with_reducible refine w_range2 ?_
  | ((with_reducible refine w_dR1 ?_ ?_); (first | decide | omega))
  | ((with_reducible refine w_dR2 ?_ ?_); (first | decide | omega))
  | with_reducible refine w_iter ?_
  | with_reducible refine w_eq (iter1_tup _ _) ?_
  | with_reducible refine w_eq (iter1_str _ _) ?_
  | with_reducible refine w_sl ?_
  | with_reducible refine w_no ?_)
local macro_rules | `(tactic| walk_at "w") => `(tactic| first
  | ((with_reducible refine br_dt ?_ ?_); (first | assumption | omega))
  | ((with_reducible refine br_df ?_ ?_); (first | assumption | omega))
  | with_reducible refine w_tup ?_
  | ((with_reducible refine w_toTup ?_ ?_); (first | (simp; done)))
  | with_reducible refine w_lst ?_
  | with_reducible refine w_lc ?_
  | with_reducible refine w_for ?_
  | with_reducible refine w_range1 ?_)
local macro_rules | `(tactic| walk_at "w") => `(tactic| first
  | with_reducible refine w_eq (dMin_ev _ _ _) ?_
  | with_reducible refine w_eq (dAbs_ev _ _) ?_
  | with_reducible refine w_not ?_
  | with_reducible refine w_and ?_
  | with_reducible refine w_or ?_
  | with_reducible refine br_n ?_
  | with_reducible refine br_tt ?_
  | with_reducible refine br_ff ?_)
local macro_rules | `(tactic| walk_at "w") => `(tactic| first
  | ((with_reducible refine w_fdiv ?_ ?_); (first | assumption | decide | omega))
  | ((with_reducible refine w_mulS ?_ ?_); (first | decide | omega))
  | ((with_reducible refine w_addS ?_ ?_); (first | assumption | decide | omega))
  | ((with_reducible refine w_lenS ?_ ?_); (first | assumption | decide | omega))
  | ((with_reducible refine w_slS ?_ ?_); (first | assumption | decide | omega))
  | with_reducible refine w_eq (dLen_tup _ _) ?_
  | with_reducible refine w_eq (dSl_tup _ _ _ _) ?_
  | with_reducible refine w_eq (dMax_ev _ _ _) ?_)
local macro_rules | `(tactic| walk_at "w") => `(tactic| first
  | with_reducible refine w_eq (dEq_int _ _ _) ?_
  | with_reducible refine w_eq (dEq_str _ _ _) ?_
  | with_reducible refine w_eq (dLt_int _ _ _) ?_
  | with_reducible refine w_eq (dLe_int _ _ _) ?_
  | with_reducible refine w_eq (dGt_int _ _ _) ?_
  | with_reducible refine w_eq (dGe_int _ _ _) ?_
  | with_reducible refine w_eq (dNe_int _ _ _) ?_
  | ((with_reducible refine w_mod ?_ ?_); (first | assumption | decide | omega)))
local macro_rules | `(tactic| walk_at "w") => `(tactic| first
  | with_reducible refine w_if ?_
  | with_reducible refine w_B ?_
  | with_reducible refine w_unB ?_
  | with_reducible refine w_ret ?_
  | with_reducible refine w_drop ?_
  | with_reducible refine w_skip ?_
  | with_reducible refine w_eq (dAdd_int _ _ _) ?_
  | with_reducible refine w_eq (dSub_int _ _ _) ?_)
local macro_rules | `(tactic| walk_at "w") => `(tactic| first
  | with_reducible refine w_seq ?_
  | with_reducible refine w_asg ?_
  | with_reducible refine w_cons ?_
  | with_reducible refine w_nil ?_
  | with_reducible refine w_c ?_
  | ((with_reducible refine w_var (d := ?_) ?_ ?_); rotate_left; rfl)
  | with_reducible refine w_bin ?_
  | with_reducible refine w_call ?_)
local macro_rules | `(tactic| walk_at "go") => `(tactic| (repeat (walk_at "w")); try dsimp only [List.set])
local macro_rules | `(tactic| walk_at "fn") => `(tactic| ((refine w_fun ?_); simp only [startD, List.map_cons, List.map_nil, List.reduceReplicate, Nat.reduceSub, List.cons_append, List.nil_append]; walk_at "go"))
theorem mod_in (x : Int) {n : Int} (h : 0 < n) : 0 ≤ x % n ∧ x % n < n := ⟨Int.emod_nonneg _ (by omega), Int.emod_lt_of_pos _ h⟩
def Cell (c : Int) : Prop := Builtin.Int.intBits c ≤ 1048576
theorem c_cell_at {ns : List Int} (hb : ∀ z ∈ ns, Cell z) {h : MH} {i : Nat} (hl : getL h i = some (ns.map D.int)) {k : Int} (h0 : 0 ≤ k) : Sat (m_cell_at_2c4cb [.ref i, .int k] h) (fun d h' => h' = h ∧ ∃ c, d = .int c ∧ Cell c) noX := by
  walk_at "fn"
  refine w_lenL hl ?_
  walk_at "go"
  refine br_d (fun c => ?_) (fun c => ?_)
  · walk_at "go"
    rw [List.length_map] at c
    obtain ⟨d, e1, e2⟩ := atI_in (l := ns.map D.int) h0 (by simpa using c)
    refine w_ixL hl e1 ⟨rfl, ?_⟩
    rw [List.getElem?_map, Option.map_eq_some_iff] at e2
    obtain ⟨z, e3, rfl⟩ := e2
    exact ⟨z, rfl, hb z (List.mem_of_getElem? e3)⟩
  · walk_at "go"
    exact ⟨rfl, 0, rfl, show Builtin.Int.intBits 0 ≤ 1048576 by decide⟩
theorem bits_pow {i : Int} {n : Nat} (h : Builtin.Int.intBits i ≤ n) : i.natAbs < 2 ^ n := by
  unfold Builtin.Int.intBits at h
  split at h
  · rename_i hz
    have : i.natAbs = 0 := by simpa using hz
    rw [this]
    exact Nat.two_pow_pos n
  · rename_i hz
    have hz' : i.natAbs ≠ 0 := by simpa using hz
    exact (Nat.log2_lt hz').mp (by omega)
theorem bits_add {i j : Int} {n : Nat} (h : Builtin.Int.intBits i ≤ n) (hj : j.natAbs < 2 ^ n) : Builtin.Int.intBits (i + j) ≤ n + 1 := by
  have h1 := bits_pow h
  refine bits_lt ?_
  rw [Nat.pow_succ]
  omega
theorem bits_addS {i j : Int} (h : Cell i) (h0 : -1000000000000 < j) (h1 : j < 1000000000000) : Builtin.Int.intBits (i + j) ≤ 1048577 :=
  bits_add h (Nat.lt_of_lt_of_le (show j.natAbs < 2 ^ 40 by omega) (Nat.pow_le_pow_right (by decide) (by decide)))
def Tp (l : List D) : Prop := ∃ zs : List Int, l = zs.map .int ∧ ∀ z ∈ zs, 0 ≤ z ∧ z < 2147483648
theorem Tp.nil : Tp [] := ⟨[], rfl, fun z hz => by simp at hz⟩
theorem Tp.app {l : List D} {v : Int} (t : Tp l) (hv : 0 ≤ v ∧ v < 2147483648) : Tp (l ++ [.int v]) := by
  obtain ⟨zs, rfl, hz⟩ := t
  refine ⟨zs ++ [v], by simp, fun z hm => ?_⟩
  rcases List.mem_append.mp hm with hm | hm
  · exact hz z hm
  · rw [List.mem_singleton.mp hm]; exact hv
theorem Tp.rev {l : List D} (t : Tp l) : Tp l.reverse := by
  obtain ⟨zs, rfl, hz⟩ := t
  exact ⟨zs.reverse, by simp, fun z hm => hz z (by simpa using hm)⟩
/-! equal lists of scalars -/
theorem allSome_map {α β : Type} (g : α → β) : ∀ l : List α, allSome (l.map fun a => some (g a)) = some (l.map g)
  | [] => rfl
  | a :: l => by simp [allSome, allSome_map g l]
structure Scal {α : Type} (S : α → Prop) (f : α → D) (g : α → PyData) : Prop where
  py : ∀ n h a, pyOf (n + 1) h (f a) = some (g a)
  lay : ∀ a, S a → PyData.canLay0 (g a) = true
  dep : ∀ a, PyData.depth (g a) = 0
  ev : ∀ a b, PyData.eqv (g a) (g b) = true ↔ a = b
theorem Scal.all {α : Type} {S : α → Prop} {f : α → D} {g : α → PyData} (c : Scal S f g) : ∀ {l : List α}, (∀ a ∈ l, S a) → PyData.canLayAll0 (l.map g) = true ∧ PyData.depthAll (l.map g) = 0
  | [], _ => ⟨rfl, rfl⟩
  | a :: l, h => by
    obtain ⟨h1, h2⟩ := c.all (l := l) fun b hb => h b (List.mem_cons_of_mem _ hb)
    simp only [List.map_cons, PyData.canLayAll0, PyData.depthAll, c.lay a (h a List.mem_cons_self), h1, c.dep, h2]
    exact ⟨rfl, rfl⟩
theorem Scal.eq {α : Type} {S : α → Prop} {f : α → D} {g : α → PyData} (c : Scal S f g) [DecidableEq α] : ∀ {l m : List α}, PyData.eqvAll (l.map g) (m.map g) = decide (l = m)
  | [], [] => rfl
  | a :: l, [] => rfl
  | [], a :: l => rfl
  | a :: l, b :: m => by
    simp only [List.map_cons, PyData.eqvAll, c.eq (l := l) (m := m)]
    rw [Bool.eq_iff_iff, Bool.and_eq_true, c.ev, decide_eq_true_iff, decide_eq_true_iff, List.cons.injEq]
theorem Scal.eqL {α : Type} {S : α → Prop} {f : α → D} {g : α → PyData} (c : Scal S f g) [DecidableEq α] {h : MH} {i j : Nat} {l m : List α} (hi : getL h i = some (l.map f)) (hj : getL h j = some (m.map f)) (hl : ∀ a ∈ l, S a) (hm : ∀ a ∈ m, S a) : eqD (.ref i) (.ref j) h = some (decide (l = m)) := by
  have py : ∀ (l : List α), (allSome ((l.map f).map (pyOf 199 h))) = some (l.map g) := fun l => by
    rw [List.map_map, ← allSome_map g l]
    congr 1
    exact List.map_congr_left fun a _ => c.py 198 h a
  have sh : ∀ (l : List α), (∀ a ∈ l, S a) → shapedX (.list (l.map g)) = true := fun l hl => by
    obtain ⟨h1, h2⟩ := c.all hl
    simp only [shapedX, PyData.canLay0, PyData.depth, h1, h2]
    rfl
  unfold eqD
  rw [if_neg (by simp [scalD])]
  simp only [pyOf, hi, hj, Option.bind_some, py, Option.map_some, sh l hl, sh m hm, true_and, if_true, PyData.eqv, c.eq]
theorem scal_int : Scal (fun _ => True) D.int PyData.int := ⟨fun _ _ _ => rfl, fun _ _ => rfl, fun _ => rfl, fun a b => by simp [PyData.eqv]⟩
def OkS (x : Str) : Prop := ∀ c ∈ x.cps.toList, c < 1114112
theorem scal_str : Scal OkS D.str PyData.str := ⟨fun _ _ _ => rfl, fun a h => by
  simp only [PyData.canLay0, PyData.strOk]
  rw [Array.all_eq_true']
  intro x hx
  exact decide_eq_true (h x (Array.mem_toList_iff.mpr hx)), fun _ => rfl, fun a b => by simp [PyData.eqv]⟩
theorem set_self {α : Type} {l : List α} {n : Nat} {a : α} (e : l[n]? = some a) : l.set n a = l := by
  obtain ⟨h1, h2⟩ := List.getElem?_eq_some_iff.mp e
  subst h2
  exact List.set_getElem_self h1
theorem c_next {h0 h : MH} {L : LL} (o : Own h0 h L) (n : Nat) {i : Nat} {l : List D} (e : L[n]? = some (i, l)) (tl : Tp l) {m : Int} (hm : 0 < m) : Sat (m_next_fea17 [.ref i, .int m] h) (fun d h' => ∃ v l', d = .int v ∧ 0 ≤ v ∧ v < m ∧ Tp l' ∧ Own h0 h' (L.set n (i, l'))) noX := by
  walk_at "fn"
  refine o_new o (by simp) fun j h1 o1 => ?_
  walk_at "go"
  obtain ⟨zs, rfl, hz⟩ := tl
  have e1 : ((j, []) :: L)[n + 1]? = some (i, zs.map .int) := by simpa using e
  refine w_eqK (scal_int.eqL (l := zs) (m := []) (o1.atL (n + 1) e1) (o1.atL 0 rfl) (fun _ _ => trivial) (fun _ _ => trivial)) ?_
  walk_at "go"
  refine br_d (fun c => ?_) (fun c => ?_)
  · subst c
    walk_at "go"
    refine ⟨0, [], rfl, by decide, hm, Tp.nil, ?_⟩
    rw [set_self (a := (i, [])) (by simpa using e)]
    exact o1.tail
  · walk_at "go"
    refine ⟨o1.isL (n + 1) e1, ?_⟩
    walk_at "go"
    obtain ⟨ys, y, rfl⟩ : ∃ ys y, zs = ys ++ [y] := ⟨zs.dropLast, zs.getLast c, (List.dropLast_concat_getLast c).symm⟩
    rw [List.map_append] at e1
    refine o_pop o1 (n + 1) e1 fun h2 o2 => ?_
    walk_at "go"
    have hv := mod_in y hm
    refine ⟨_, _, rfl, hv.1, hv.2, ⟨ys, rfl, fun z hz' => hz z (by simp [hz'])⟩, ?_⟩
    rw [List.set_cons_succ] at o2
    exact o2.tail
/-! names -/
def Wd (n : Nat) (x : Str) : Prop := x.length ≤ n ∧ OkS x
theorem str_len (x : Str) : x.length = x.cps.toList.length := by rw [Array.length_toList]; rfl
theorem app_cps (x y : Str) : (x ++ y).cps.toList = x.cps.toList ++ y.cps.toList := by
  show (x.cps ++ y.cps).toList = _
  rw [Array.toList_append]
theorem app_len (x y : Str) : (x ++ y).length = x.length + y.length := by rw [str_len, str_len, str_len, app_cps, List.length_append]
theorem Wd.app {a b : Nat} {x y : Str} (hx : Wd a x) (hy : Wd b y) : Wd (a + b) (x ++ y) := ⟨by rw [app_len]; exact Nat.add_le_add hx.1 hy.1, fun c hc => by
  rw [app_cps] at hc
  rcases List.mem_append.mp hc with h | h
  · exact hx.2 c h
  · exact hy.2 c h⟩
theorem Wd.cut {a : Nat} {x : Str} (hx : Wd a x) (lo hi : Option Int) : Wd a (cutS x lo hi) := ⟨Nat.le_trans (cutS_length x lo hi) hx.1, fun c hc => hx.2 c (List.mem_of_mem_drop (List.mem_of_mem_take hc))⟩
theorem Wd.sign {a : Nat} {x : Str} (hx : Wd a x) {c : Nat} (hc : c ∈ x.cps.toList) : Wd 1 ⟨#[c]⟩ := ⟨Nat.le_refl 1, fun d hd => by
  have : d = c := by simpa using hd
  subst this
  exact hx.2 _ hc⟩
theorem Wd.le {a b : Nat} {x : Str} (hx : Wd a x) (h : a ≤ b) : Wd b x := ⟨Nat.le_trans hx.1 h, hx.2⟩
theorem joinL_nil : ∀ ps : List (List Nat), TL.joinL [] ps = ps.flatten
  | [] => rfl
  | [p] => by simp [TL.joinL]
  | p :: q :: r => by simp [TL.joinL, joinL_nil (q :: r)]
theorem join_cps (ys : List Str) : (Txt.join (Str.ofString "") ys).cps.toList = (ys.map fun y => y.cps.toList).flatten := by
  have e : Txt.join (Str.ofString "") ys = Str.join (Str.ofString "") ys := StrLaws.glued_eq_join _ _
  rw [e]
  exact (TL.tl_join _ _).trans (joinL_nil _)
theorem Wd.join : ∀ {ys : List Str}, (∀ y ∈ ys, Wd 1 y) → Wd ys.length (Txt.join (Str.ofString "") ys) := fun {ys} h => by
  constructor
  · rw [str_len, join_cps]
    induction ys with
    | nil => simp
    | cons y ys ih =>
      have h1 := (h y List.mem_cons_self).1
      have h2 := ih fun z hz => h z (List.mem_cons_of_mem _ hz)
      rw [str_len] at h1
      simp only [List.map_cons, List.flatten_cons, List.length_append, List.length_cons]
      omega
  · intro c hc
    rw [join_cps] at hc
    obtain ⟨l, hl, hc⟩ := List.mem_flatten.mp hc
    obtain ⟨y, hy, rfl⟩ := List.mem_map.mp hl
    exact (h y hy).2 c hc
theorem ltrs_wd : Wd 26 (Str.ofString "abcdefghijklmnopqrstuvwxyz") := ⟨by decide +kernel, by unfold OkS; decide +kernel⟩
theorem lt_len : (Str.ofString "abcdefghijklmnopqrstuvwxyz").length = 26 := by decide +kernel
def Wds (n : Nat) (l : List D) : Prop := ∃ ns : List Str, l = ns.map .str ∧ ∀ x ∈ ns, Wd n x
theorem Wds.app {n : Nat} {l m : List D} (hl : Wds n l) (hm : Wds n m) : Wds n (l ++ m) := by
  obtain ⟨a, rfl, ha⟩ := hl
  obtain ⟨b, rfl, hb⟩ := hm
  refine ⟨a ++ b, by simp, fun x hx => ?_⟩
  rcases List.mem_append.mp hx with h | h
  · exact ha x h
  · exact hb x h
theorem Wds.one {n : Nat} {x : Str} (h : Wd n x) : Wds n [.str x] := ⟨[x], rfl, fun y hy => by rw [List.mem_singleton.mp hy]; exact h⟩
/-! machines -/
def InL (n : Int) (l : List D) : Prop := ∀ d ∈ l, ∃ v, d = .int v ∧ 0 ≤ v ∧ v < n
theorem InL.nil (n : Int) : InL n [] := fun d hd => by simp at hd
theorem InL.app {n : Int} {l : List D} {v : Int} (h : InL n l) (h0 : 0 ≤ v) (h1 : v < n) : InL n (l ++ [.int v]) := fun d hd => by
  rcases List.mem_append.mp hd with q | q
  · exact h d q
  · exact ⟨v, List.mem_singleton.mp q, h0, h1⟩
theorem InL.of {n : Int} {ys : List D} (h : ∀ (i : Nat) y, ys[i]? = some y → ∃ v, y = .int v ∧ 0 ≤ v ∧ v < n) : InL n ys := fun d hd => by
  obtain ⟨k, hk⟩ := List.getElem?_of_mem hd
  exact h k d hk
theorem Wds.cut {n : Nat} {l : List D} (h : Wds n l) (lo hi : Option Int) : Wds n (cutD l lo hi) := by
  obtain ⟨ns, rfl, hn⟩ := h
  refine ⟨(ns.drop (HT.sIx ns.length 0 lo)).take (HT.sIx ns.length ns.length hi - HT.sIx ns.length 0 lo), ?_, fun x hx => hn x (List.mem_of_mem_drop (List.mem_of_mem_take hx))⟩
  unfold cutD
  rw [List.length_map, List.map_take, List.map_drop]
structure Mach (F N S T K : List D) (m : Int) : Prop where
  m1 : 1 ≤ m
  fs : Wds 20 F
  fl : F.length ≤ 9
  ns : Wds 20 N
  nl : N.length ≤ 9
  ss : InL m S
  sl : S.length = N.length + 1
  tl : (T.length : Int) = m
  ts : ∀ r ∈ T, ∃ l, r = .tup l ∧ (l.length : Int) = m ∧ InL m l
  kl : (K.length : Int) = m
  ks : InL (2 ^ F.length) K
end Mi
namespace Mi
open PySem L2
end Mi
namespace Mi
open PySem L2
local macro_rules | `(tactic| walk_at "gl") => `(tactic| first
  | assumption
  | (refine Own.atL (h0 := ?_) (L := ?_) ?_ 0 ?_; rotate_left; rotate_left; assumption; rfl)
  | (refine Own.atL (h0 := ?_) (L := ?_) ?_ 1 ?_; rotate_left; rotate_left; assumption; rfl)
  | (refine Own.atL (h0 := ?_) (L := ?_) ?_ 2 ?_; rotate_left; rotate_left; assumption; rfl)
  | (refine Own.atL (h0 := ?_) (L := ?_) ?_ 3 ?_; rotate_left; rotate_left; assumption; rfl)
  | (refine Own.atL (h0 := ?_) (L := ?_) ?_ 4 ?_; rotate_left; rotate_left; assumption; rfl)
  | (refine Own.atL (h0 := ?_) (L := ?_) ?_ 5 ?_; rotate_left; rotate_left; assumption; rfl)
  | (refine Own.atL (h0 := ?_) (L := ?_) ?_ 6 ?_; rotate_left; rotate_left; assumption; rfl)
  | (refine Own.atL (h0 := ?_) (L := ?_) ?_ 7 ?_; rotate_left; rotate_left; assumption; rfl)
  | (refine Own.atL (h0 := ?_) (L := ?_) ?_ 8 ?_; rotate_left; rotate_left; assumption; rfl)
  | (refine Own.atL (h0 := ?_) (L := ?_) ?_ 9 ?_; rotate_left; rotate_left; assumption; rfl)
  | (refine Own.getL (h0 := ?_) (L := ?_) ?_ ?_; rotate_left; rotate_left; assumption; assumption))
local macro_rules | `(tactic| walk_at "il") => `(tactic| first
  | (refine Own.isL (h0 := ?_) (L := ?_) (l := ?_) ?_ 0 ?_; rotate_left; rotate_left; rotate_left; assumption; rfl)
  | (refine Own.isL (h0 := ?_) (L := ?_) (l := ?_) ?_ 1 ?_; rotate_left; rotate_left; rotate_left; assumption; rfl)
  | (refine Own.isL (h0 := ?_) (L := ?_) (l := ?_) ?_ 2 ?_; rotate_left; rotate_left; rotate_left; assumption; rfl)
  | (refine Own.isL (h0 := ?_) (L := ?_) (l := ?_) ?_ 3 ?_; rotate_left; rotate_left; rotate_left; assumption; rfl)
  | (refine Own.isL (h0 := ?_) (L := ?_) (l := ?_) ?_ 4 ?_; rotate_left; rotate_left; rotate_left; assumption; rfl)
  | (refine Own.isL (h0 := ?_) (L := ?_) (l := ?_) ?_ 5 ?_; rotate_left; rotate_left; rotate_left; assumption; rfl)
  | (refine Own.isL (h0 := ?_) (L := ?_) (l := ?_) ?_ 6 ?_; rotate_left; rotate_left; rotate_left; assumption; rfl)
  | (refine Own.isL (h0 := ?_) (L := ?_) (l := ?_) ?_ 7 ?_; rotate_left; rotate_left; rotate_left; assumption; rfl)
  | (refine Own.isL (h0 := ?_) (L := ?_) (l := ?_) ?_ 8 ?_; rotate_left; rotate_left; rotate_left; assumption; rfl)
  | (refine Own.isL (h0 := ?_) (L := ?_) (l := ?_) ?_ 9 ?_; rotate_left; rotate_left; rotate_left; assumption; rfl))
local macro_rules | `(tactic| walk_at "bd") => `(tactic| first | assumption | omega | (simp; done) | (simp; omega) | (simp [*]; done) | (simp [*]; omega))
local macro_rules | `(tactic| walk_at "w") => `(tactic| first
  | ((with_reducible refine w_xfK ?_ ?_ ?_); (exact List.mem_cons_self); (decide))
  | with_reducible refine w_eq (isN_xo _) ?_
  | with_reducible refine w_eq (dNeg_int _ _) ?_)
local macro_rules | `(tactic| walk_at "w") => `(tactic| first
  | ((with_reducible refine w_addT ?_ ?_); walk_at "bd")
  | ((with_reducible refine ⟨?_, ?_⟩); (with_reducible (show isListD (.ref _) _ = true)); walk_at "il")
  | with_reducible refine w_tryK ?_
  | with_reducible refine w_raise ?_
  | with_reducible refine w_raise0 ?_
  | with_reducible refine w_isX ?_
  | ((with_reducible refine w_isXK (k := ?_) ?_ ?_); rotate_left; (first | with_reducible exact lkA | (apply lkB; decide +kernel; exact lkA) | (apply lkB; decide +kernel; apply lkB; decide +kernel; exact lkA) | (apply lkB; decide +kernel; apply lkB; decide +kernel; apply lkB; decide +kernel; exact lkA)))
  | with_reducible refine w_xf ?_)
local macro_rules | `(tactic| walk_at "w") => `(tactic| first
  | with_reducible refine w_eq (isi_bool_int _ _) ?_
  | with_reducible refine w_eq (isi_str_int _ _) ?_
  | ((with_reducible refine w_lenLm (α := ?_) (f := ?_) (l := ?_) ?_ ?_); rotate_left; rotate_left; rotate_left; walk_at "gl")
  | ((with_reducible refine w_lenL (l := ?_) ?_ ?_); rotate_left; walk_at "gl")
  | ((with_reducible refine w_iterL (l := ?_) ?_ ?_); rotate_left; walk_at "gl"; dsimp only)
  | ((with_reducible refine w_tupL (l := ?_) ?_ ?_); rotate_left; walk_at "gl")
  | ((with_reducible refine w_ixT (d := ?_) ?_ ?_); rotate_left; (first | with_reducible assumption | rfl))
  | ((with_reducible refine w_ixL (l := ?_) (d := ?_) ?_ ?_ ?_); rotate_left; rotate_left; walk_at "gl"; (first | with_reducible assumption | rfl)))
local macro_rules | `(tactic| walk_at "w") => `(tactic| first
  | with_reducible refine w_chK ?_
  | with_reducible refine w_retN ?_
  | with_reducible refine w_brk ?_
  | with_reducible refine w_cont ?_
  | with_reducible refine w_asgT ?_
  | with_reducible refine w_eq (isi_str_str _ _) ?_
  | with_reducible refine w_eq (isi_int_int _ _) ?_
  | with_reducible refine w_eq (isi_tup_tup _ _) ?_)
local macro_rules | `(tactic| walk_at "w") => `(tactic| first
  | with_reducible refine w_revL ?_
  | with_reducible refine w_listRg1 ?_
  | with_reducible refine w_tindex ?_
  | with_reducible refine w_setIx ?_
  | with_reducible refine w_un ?_
  | with_reducible refine w_rev1 ?_
  | with_reducible refine w_rev2 ?_
  | with_reducible refine w_chain ?_)
local macro_rules | `(tactic| walk_at "w") => `(tactic| first
  | with_reducible refine w_zip ?_
  | with_reducible refine w_ifE ?_
  | with_reducible refine w_andV ?_
  | with_reducible refine w_orV ?_
  | with_reducible refine w_notV ?_
  | with_reducible refine w_andK ?_
  | with_reducible refine w_orK ?_
  | with_reducible refine w_notK ?_)
local macro_rules | `(tactic| walk_at "w") => `(tactic| first
  | with_reducible refine w_eq (iter1_tup _ _) ?_
  | with_reducible refine w_eq (iter1_str _ _) ?_
  | with_reducible refine w_sl ?_
  | with_reducible refine w_no ?_
  | with_reducible refine w_some ?_
  | with_reducible refine w_unI ?_
  | with_reducible refine w_meth ?_
  | with_reducible refine w_isi ?_)
local macro_rules | `(tactic| walk_at "w") => `(tactic| first
  | with_reducible refine w_lst ?_
  | with_reducible refine w_lc ?_
  | with_reducible refine w_for ?_
  | with_reducible refine w_range1 ?_
  | with_reducible refine w_range2 ?_
  | ((with_reducible refine w_dR1 ?_ ?_); (first | decide | omega))
  | ((with_reducible refine w_dR2 ?_ ?_); (first | decide | omega))
  | with_reducible refine w_iter ?_)
local macro_rules | `(tactic| walk_at "w") => `(tactic| first
  | with_reducible refine w_or ?_
  | with_reducible refine br_n ?_
  | with_reducible refine br_tt ?_
  | with_reducible refine br_ff ?_
  | ((with_reducible refine br_dt ?_ ?_); (first | assumption | omega | rfl))
  | ((with_reducible refine br_df ?_ ?_); (first | assumption | omega))
  | with_reducible refine w_tup ?_
  | ((with_reducible refine w_toTup ?_ ?_); exact (by simp)))
local macro_rules | `(tactic| walk_at "w") => `(tactic| first
  | with_reducible refine w_lenTm ?_
  | with_reducible refine w_eq (dLen_tup _ _) ?_
  | with_reducible refine w_eq (dSl_tup _ _ _ _) ?_
  | with_reducible refine w_eq (dMax_ev _ _ _) ?_
  | with_reducible refine w_eq (dMin_ev _ _ _) ?_
  | with_reducible refine w_eq (dAbs_ev _ _) ?_
  | with_reducible refine w_not ?_
  | with_reducible refine w_and ?_)
local macro_rules | `(tactic| walk_at "w") => `(tactic| first
  | with_reducible refine w_eq (dGe_int _ _ _) ?_
  | with_reducible refine w_eq (dNe_int _ _ _) ?_
  | ((with_reducible refine w_mod ?_ ?_); (first | assumption | decide | omega))
  | ((with_reducible refine w_fdiv ?_ ?_); (first | assumption | decide | omega))
  | ((with_reducible refine w_mulS ?_ ?_); (first | decide | omega))
  | ((with_reducible refine w_addS ?_ ?_); (first | assumption | decide | omega))
  | ((with_reducible refine w_lenS ?_ ?_); (first | assumption | decide | omega))
  | ((with_reducible refine w_slS ?_ ?_); (first | assumption | decide | omega)))
local macro_rules | `(tactic| walk_at "w") => `(tactic| first
  | with_reducible refine w_eq (dEq_int _ _ _) ?_
  | with_reducible refine w_eq (dEq_str _ _ _) ?_
  | with_reducible refine w_eq (dNe_strs _ _ _) ?_
  | with_reducible refine w_eq (dEq_bls _ _ _) ?_
  | with_reducible refine w_eq (dNe_bls _ _ _) ?_
  | with_reducible refine w_eq (dLt_int _ _ _) ?_
  | with_reducible refine w_eq (dLe_int _ _ _) ?_
  | with_reducible refine w_eq (dGt_int _ _ _) ?_)
local macro_rules | `(tactic| walk_at "w") => `(tactic| first
  | with_reducible refine w_if ?_
  | with_reducible refine w_B ?_
  | with_reducible refine w_unB ?_
  | with_reducible refine w_ret ?_
  | with_reducible refine w_drop ?_
  | with_reducible refine w_skip ?_
  | with_reducible refine w_eq (dAdd_int _ _ _) ?_
  | with_reducible refine w_eq (dSub_int _ _ _) ?_)
local macro_rules | `(tactic| walk_at "w") => `(tactic| first
  | with_reducible refine w_seq ?_
  | with_reducible refine w_asg ?_
  | with_reducible refine w_cons ?_
  | with_reducible refine w_nil ?_
  | with_reducible refine w_c ?_
  | ((with_reducible refine w_var (d := ?_) ?_ ?_); rotate_left; rfl)
  | with_reducible refine w_bin ?_
  | with_reducible refine w_call ?_)
local macro_rules | `(tactic| walk_at "go") => `(tactic| (repeat (walk_at "w")); try dsimp only [List.set])
local macro_rules | `(tactic| walk_at "fn") => `(tactic| ((refine w_fun ?_); simp only [startD, List.map_cons, List.map_nil, List.reduceReplicate, Nat.reduceSub, List.cons_append, List.nil_append]; walk_at "go"))
section
open PySem L2

/-! ### cells, names, parents -/
def CellP (c : Int) : Prop := Cell c ∧ 0 ≤ c
theorem ints_all {S : Int → Prop} : ∀ {ys : List D}, (∀ (i : Nat) y, ys[i]? = some y → ∃ c, y = .int c ∧ S c) → ∃ cs : List Int, ys = cs.map .int ∧ ∀ c ∈ cs, S c
  | [], _ => ⟨[], rfl, fun c hc => by simp at hc⟩
  | y :: ys, h => by
    obtain ⟨c, rfl, hc⟩ := h 0 y rfl
    obtain ⟨cs, rfl, hcs⟩ := ints_all (ys := ys) fun i z e => h (i + 1) z (by simpa using e)
    exact ⟨c :: cs, rfl, fun d hd => by
      rcases List.mem_cons.mp hd with rfl | q
      · exact hc
      · exact hcs d q⟩
theorem mem_app {α : Type} {S : α → Prop} {l : List α} {x : α} (h : ∀ a ∈ l, S a) (hx : S x) : ∀ a ∈ l ++ [x], S a := fun a ha => by
  rcases List.mem_append.mp ha with q | q
  · exact h a q
  · rw [List.mem_singleton.mp q]; exact hx
theorem map_app1 {α β : Type} (f : α → β) (l : List α) (x : α) : l.map f ++ [f x] = (l ++ [x]).map f := by simp
/-! names -/
def Ltr (c : Nat) : Prop := 97 ≤ c ∧ c ≤ 122
def Nm (x : Str) : Prop := 1 ≤ x.length ∧ x.length ≤ 8 ∧ ∀ c ∈ x.cps.toList, Ltr c
def Ls (n : Nat) (x : Str) : Prop := x.length = n ∧ ∀ c ∈ x.cps.toList, Ltr c
theorem Ls.app {a b : Nat} {x y : Str} (hx : Ls a x) (hy : Ls b y) : Ls (a + b) (x ++ y) := ⟨by rw [app_len, hx.1, hy.1], fun c hc => by
  rw [app_cps] at hc
  rcases List.mem_append.mp hc with q | q
  · exact hx.2 c q
  · exact hy.2 c q⟩
theorem Ls.nm {n : Nat} {x : Str} (h : Ls n x) (h1 : 1 ≤ n) (h8 : n ≤ 8) : Nm x := ⟨by rw [h.1]; exact h1, by rw [h.1]; exact h8, h.2⟩
/-! parents -/
def Par (ps : List Int) : Prop := ps[0]? = some 0 ∧ ∀ (k : Nat) p, 0 < k → ps[k]? = some p → 0 ≤ p ∧ p < (k : Int)
theorem Par.app {ps : List Int} {p : Int} (h : Par ps) (hl : 0 < ps.length) (h0 : 0 ≤ p) (h1 : p < (ps.length : Int)) : Par (ps ++ [p]) := ⟨by rw [List.getElem?_append_left hl]; exact h.1, fun k q hk e => by
  rcases Nat.lt_or_ge k ps.length with z | z
  · rw [List.getElem?_append_left z] at e
    exact h.2 k q hk e
  · rw [List.getElem?_append_right z] at e
    have : k - ps.length = 0 := by
      have := (List.getElem?_eq_some_iff.mp e).1
      simp at this; omega
    rw [this] at e
    simp at e
    omega⟩
/-! ### documents -/
inductive Doc where
  | mk (x : Str) (ks : List Doc)
def Doc.nm : Doc → Str
  | .mk x _ => x
def Doc.ks : Doc → List Doc
  | .mk _ l => l
mutual
def Doc.toD : Doc → D
  | .mk x l => .tup [.str x, .tup (Doc.toDs l)]
def Doc.toDs : List Doc → List D
  | [] => []
  | d :: l => d.toD :: Doc.toDs l
end
theorem toDs_map : ∀ l : List Doc, Doc.toDs l = l.map Doc.toD
  | [] => rfl
  | d :: l => by rw [Doc.toDs, toDs_map l, List.map_cons]
theorem toD_mk (x : Str) (l : List Doc) : (Doc.mk x l).toD = .tup [.str x, .tup (l.map Doc.toD)] := by rw [Doc.toD, toDs_map]
def Doc.ok : Nat → Doc → Prop
  | 0, _ => False
  | n + 1, .mk x l => Nm x ∧ l.length ≤ 1000 ∧ ∀ k ∈ l, k.ok n
def Doc.at : Doc → List Int → Option Doc
  | d, [] => some d
  | d, k :: r => if 0 ≤ k then match d.ks[k.toNat]? with
    | some c => c.at r
    | none => none else none
theorem at_app : ∀ (d : Doc) (a b : List Int), d.at (a ++ b) = (d.at a).bind fun c => c.at b
  | d, [], b => by simp [Doc.at]
  | d, k :: r, b => by
    rw [List.cons_append, Doc.at, Doc.at]
    split
    · split
      · rename_i c e
        exact at_app c r b
      · rfl
    · rfl
theorem at_one (d : Doc) (k : Int) : d.at [k] = if 0 ≤ k then d.ks[k.toNat]? else none := by
  rw [Doc.at]
  split
  · split
    · rename_i c e; rw [e, Doc.at]
    · rename_i e; rw [e]
  · rfl
/-- the children of the k-th -/
def isKid (pn : Nat → Nat) (k j : Nat) : Bool := decide (0 < j ∧ pn j = k)
def kids (pn : Nat → Nat) (n k : Nat) : List Nat := (List.range n).filter (isKid pn k)
def kidsF (pn : Nat → Nat) (n m k : Nat) : List Nat := (List.range' m (n - m)).filter (isKid pn k)
def cntF (pn : Nat → Nat) (k p : Nat) : Nat := ((List.range k).filter (isKid pn p)).length
def PnOk (pn : Nat → Nat) (n : Nat) : Prop := ∀ j, 0 < j → j < n → pn j < j
theorem kids_mem {pn : Nat → Nat} {n k j : Nat} (h : j ∈ kids pn n k) : j < n ∧ 0 < j ∧ pn j = k := by
  unfold kids at h
  rw [List.mem_filter, List.mem_range] at h
  exact ⟨h.1, of_decide_eq_true h.2⟩
theorem range_cut {k n : Nat} (h : k ≤ n) : List.range n = List.range k ++ List.range' k (n - k) := by
  have e : n = k + (n - k) := by omega
  rw [List.range_eq_range', List.range_eq_range']
  have := List.range'_append_1 (s := 0) (m := k) (n := n - k)
  rw [Nat.zero_add, ← e] at this
  exact this.symm
theorem kid_at {pn : Nat → Nat} {n k : Nat} (h0 : 0 < k) (h1 : k < n) : (kids pn n (pn k))[cntF pn k (pn k)]? = some k := by
  unfold kids cntF
  rw [range_cut (Nat.le_of_lt h1), List.filter_append, List.getElem?_append_right (Nat.le_refl _), Nat.sub_self]
  have e : n - k = (n - (k + 1)) + 1 := by omega
  have t : isKid pn (pn k) k = true := by unfold isKid; simp [h0]
  rw [e, List.range'_succ, List.filter_cons, if_pos t]
  rfl
theorem cnt_le {pn : Nat → Nat} {k p : Nat} : cntF pn k p ≤ k := by
  unfold cntF
  have := List.length_filter_le (isKid pn p) (List.range k)
  simpa using this
theorem kids_len {pn : Nat → Nat} {n k : Nat} : (kids pn n k).length ≤ n := cnt_le
/-- documents by their children -/
def DocsF (pn : Nat → Nat) (n m : Nat) (f : Nat → Doc) : Prop := ∀ j, m ≤ j → j < n → ∃ x, Nm x ∧ f j = .mk x ((kids pn n j).map f)
theorem DocsF.put {pn : Nat → Nat} {n m : Nat} {f : Nat → Doc} (hp : PnOk pn n) (h : DocsF pn n (m + 1) f) {x : Str} (hx : Nm x) : DocsF pn n m (fun i => if i = m then .mk x ((kids pn n m).map f) else f i) := fun j h1 h2 => by
  have key : (kids pn n j).map (fun i => if i = m then .mk x ((kids pn n m).map f) else f i) = (kids pn n j).map f := by
    refine List.map_congr_left fun i hi => ?_
    obtain ⟨a, b, c⟩ := kids_mem hi
    have := hp i b a
    rw [if_neg (by omega)]
  by_cases e : j = m
  · subst e
    rw [key]
    dsimp only
    rw [if_pos rfl]
    exact ⟨x, hx, rfl⟩
  · rw [key]
    dsimp only
    rw [if_neg e]
    exact h j (by omega) h2
theorem DocsF.ok {pn : Nat → Nat} {n : Nat} {f : Nat → Doc} (hp : PnOk pn n) (hn : n ≤ 1000) (h : DocsF pn n 0 f) : ∀ (t j : Nat), n ≤ j + t → j < n → (f j).ok t
  | 0, j, h1, h2 => by omega
  | t + 1, j, h1, h2 => by
    obtain ⟨x, hx, e⟩ := h j (Nat.zero_le _) h2
    rw [e]
    refine ⟨hx, ?_, ?_⟩
    · rw [List.length_map]
      exact Nat.le_trans kids_len hn
    · intro k hk
      obtain ⟨i, hi, rfl⟩ := List.mem_map.mp hk
      obtain ⟨a, b, c⟩ := kids_mem hi
      have := hp i b a
      exact DocsF.ok hp hn h t i (by omega) a
/-- places -/
def PlF (pn : Nat → Nat) (n : Nat) (q : Nat → List Int) : Prop := q 0 = [] ∧ ∀ k, 0 < k → k < n → q k = q (pn k) ++ [(cntF pn k (pn k) : Int)]
theorem PlF.put {pn : Nat → Nat} {n : Nat} {q : Nat → List Int} (hp : PnOk pn (n + 1)) (hn : 0 < n) (h : PlF pn n q) : PlF pn (n + 1) (fun i => if i = n then q (pn n) ++ [(cntF pn n (pn n) : Int)] else q i) := ⟨by dsimp only; rw [if_neg (by omega)]; exact h.1, fun k h0 h1 => by
  dsimp only
  have := hp k h0 h1
  by_cases e : k = n
  · subst e
    rw [if_pos rfl, if_neg (by omega)]
  · rw [if_neg e, if_neg (by omega)]
    exact h.2 k h0 (by omega)⟩
theorem stands {pn : Nat → Nat} {n : Nat} {f : Nat → Doc} {q : Nat → List Int} (hp : PnOk pn n) (hf : DocsF pn n 0 f) (hq : PlF pn n q) : ∀ (m k : Nat), k ≤ m → k < n → (f 0).at (q k) = some (f k)
  | 0, k, h1, h2 => by
    have : k = 0 := by omega
    subst this
    rw [hq.1, Doc.at]
  | m + 1, k, h1, h2 => by
    by_cases h0 : k = 0
    · subst h0
      rw [hq.1, Doc.at]
    · have hk := hp k (by omega) h2
      rw [hq.2 k (by omega) h2, at_app, stands hp hf hq m (pn k) (by omega) (by omega), Option.bind_some, at_one, if_pos (by omega)]
      obtain ⟨x, _, e⟩ := hf (pn k) (Nat.zero_le _) (by omega)
      rw [e]
      show ((kids pn n (pn k)).map f)[((cntF pn k (pn k) : Nat) : Int).toNat]? = some (f k)
      rw [Int.toNat_natCast, List.getElem?_map, kid_at (by omega) h2]
      rfl
end
section
open PySem L2
/-! items, plain -/
inductive It where
  | hole
  | nd (x : Str) (l : List It)
abbrev star : Str := Str.ofString "*"
mutual
def It.toD : It → D
  | .hole => .str star
  | .nd x l => .tup [.str x, .tup (It.toDs l)]
def It.toDs : List It → List D
  | [] => []
  | i :: l => i.toD :: It.toDs l
end
theorem it_toDs : ∀ l : List It, It.toDs l = l.map It.toD
  | [] => rfl
  | i :: l => by rw [It.toDs, it_toDs l, List.map_cons]
theorem it_nd (x : Str) (l : List It) : (It.nd x l).toD = .tup [.str x, .tup (l.map It.toD)] := by rw [It.toD, it_toDs]
mutual
def It.sz (s : Int) : It → Int
  | .hole => s
  | .nd _ l => 1 + It.szs s l
def It.szs (s : Int) : List It → Int
  | [] => 0
  | i :: l => i.sz s + It.szs s l
end
mutual
def It.fl (row : List Doc) : It → List Doc
  | .hole => row
  | .nd x l => [.mk x (It.fls row l)]
def It.fls (row : List Doc) : List It → List Doc
  | [] => []
  | i :: l => i.fl row ++ It.fls row l
end
mutual
def It.hh : It → Bool
  | .hole => true
  | .nd _ l => It.hhs l
def It.hhs : List It → Bool
  | [] => false
  | i :: l => i.hh || It.hhs l
end
mutual
def It.dp : It → Nat
  | .hole => 0
  | .nd _ l => 1 + It.dps l
def It.dps : List It → Nat
  | [] => 0
  | i :: l => max i.dp (It.dps l)
end
mutual
def Doc.ht : Doc → Nat
  | .mk _ l => 1 + Doc.hts l
def Doc.hts : List Doc → Nat
  | [] => 0
  | d :: l => max d.ht (Doc.hts l)
end
mutual
def Doc.ds : Doc → Int
  | .mk _ l => 1 + Doc.dss l
def Doc.dss : List Doc → Int
  | [] => 0
  | d :: l => d.ds + Doc.dss l
end
theorem hts_app : ∀ a b : List Doc, Doc.hts (a ++ b) = max (Doc.hts a) (Doc.hts b)
  | [], b => by simp [Doc.hts]
  | d :: a, b => by rw [List.cons_append, Doc.hts, hts_app a b, Doc.hts]; omega
theorem dss_app : ∀ a b : List Doc, Doc.dss (a ++ b) = Doc.dss a + Doc.dss b
  | [], b => by simp [Doc.dss]
  | d :: a, b => by rw [List.cons_append, Doc.dss, dss_app a b, Doc.dss]; omega
mutual
theorem fl_dss (row : List Doc) : ∀ i : It, Doc.dss (i.fl row) = i.sz (Doc.dss row)
  | .hole => rfl
  | .nd x l => by rw [It.fl, It.sz, Doc.dss, Doc.dss, Doc.ds, fls_dss row l]; omega
theorem fls_dss (row : List Doc) : ∀ l : List It, Doc.dss (It.fls row l) = It.szs (Doc.dss row) l
  | [] => rfl
  | i :: l => by rw [It.fls, It.szs, dss_app, fl_dss row i, fls_dss row l]
end
mutual
theorem fl_hts (row : List Doc) : ∀ i : It, Doc.hts (i.fl row) ≤ i.dp + Doc.hts row
  | .hole => by rw [It.fl, It.dp]; omega
  | .nd x l => by
    have := fls_hts row l
    rw [It.fl, It.dp, Doc.hts, Doc.hts, Doc.ht]
    omega
theorem fls_hts (row : List Doc) : ∀ l : List It, Doc.hts (It.fls row l) ≤ It.dps l + Doc.hts row
  | [] => by rw [It.fls, Doc.hts]; omega
  | i :: l => by
    have h1 := fl_hts row i
    have h2 := fls_hts row l
    rw [It.fls, hts_app, It.dps]
    omega
end
mutual
theorem sz_pos {s : Int} (hs : 0 ≤ s) : ∀ i : It, 0 ≤ i.sz s
  | .hole => hs
  | .nd x l => by have := szs_pos hs l; rw [It.sz]; omega
theorem szs_pos {s : Int} (hs : 0 ≤ s) : ∀ l : List It, 0 ≤ It.szs s l
  | [] => Int.le_refl _
  | i :: l => by have := sz_pos hs i; have := szs_pos hs l; rw [It.szs]; omega
end
mutual
theorem sz_hole {s : Int} (hs : 0 ≤ s) : ∀ i : It, i.hh = true → s ≤ i.sz s
  | .hole, _ => Int.le_refl _
  | .nd x l, h => by have := szs_hole hs l h; rw [It.sz]; omega
theorem szs_hole {s : Int} (hs : 0 ≤ s) : ∀ l : List It, It.hhs l = true → s ≤ It.szs s l
  | i :: l, h => by
    rw [It.hhs, Bool.or_eq_true] at h
    rw [It.szs]
    rcases h with h | h
    · have := sz_hole hs i h; have := szs_pos hs l; omega
    · have := sz_pos hs i; have := szs_hole hs l h; omega
end
theorem ds_pos : ∀ d : Doc, 1 ≤ d.ds ∧ True
  | .mk x l => by
    refine ⟨?_, trivial⟩
    rw [Doc.ds]
    have : ∀ l : List Doc, (∀ d ∈ l, 1 ≤ d.ds) → 0 ≤ Doc.dss l := fun l => by
      induction l with
      | nil => intro _; exact Int.le_refl _
      | cons d l ih =>
        intro h
        have h1 := h d List.mem_cons_self
        have h2 := ih fun e he => h e (List.mem_cons_of_mem _ he)
        rw [Doc.dss]; omega
    have := this l fun d hd => (ds_pos d).1
    omega
theorem dss_len : ∀ l : List Doc, (l.length : Int) ≤ Doc.dss l
  | [] => Int.le_refl _
  | d :: l => by have := (ds_pos d).1; have := dss_len l; rw [Doc.dss, List.length_cons]; omega
theorem dss_mem : ∀ {l : List Doc} {d : Doc}, d ∈ l → d.ds ≤ Doc.dss l
  | e :: l, d, h => by
    rw [Doc.dss]
    have h0 := dss_len l
    have h1 := (ds_pos e).1
    rcases List.mem_cons.mp h with rfl | h
    · omega
    · have := dss_mem h; omega
theorem hts_mem : ∀ {l : List Doc} {d : Doc}, d ∈ l → d.ht ≤ Doc.hts l
  | e :: l, d, h => by
    rw [Doc.hts]
    rcases List.mem_cons.mp h with rfl | h
    · omega
    · have := hts_mem h; omega
def Doc.fit : Nat → Doc → Prop
  | 0, _ => False
  | n + 1, .mk _ l => l.length ≤ 5000 ∧ ∀ k ∈ l, k.fit n
theorem fit_of : ∀ (n : Nat) (d : Doc), d.ht ≤ n → d.ds ≤ 5000 → d.fit n
  | 0, .mk x l, h, _ => by rw [Doc.ht] at h; omega
  | n + 1, .mk x l, h, hd => by
    rw [Doc.ht] at h
    rw [Doc.ds] at hd
    have h1 := dss_len l
    refine ⟨by omega, fun k hk => fit_of n k ?_ ?_⟩
    · have := hts_mem hk; omega
    · have := dss_mem hk; omega
/-! turners -/
abbrev TRl := List (Str × List It)
def look : TRl → Str → Option (List It)
  | [], _ => none
  | (y, its) :: r, x => if y = x then some its else look r x
mutual
def tsz (rl : TRl) : Doc → Int
  | .mk x l => match look rl x with
    | none => 1 + tszs rl l
    | some its => It.szs (tszs rl l) its
def tszs (rl : TRl) : List Doc → Int
  | [] => 0
  | d :: l => tsz rl d + tszs rl l
end
mutual
def trw (rl : TRl) : Doc → List Doc
  | .mk x l => match look rl x with
    | none => [.mk x (trws rl l)]
    | some its => It.fls (trws rl l) its
def trws (rl : TRl) : List Doc → List Doc
  | [] => []
  | d :: l => trw rl d ++ trws rl l
end
mutual
theorem trw_dss (rl : TRl) : ∀ d : Doc, Doc.dss (trw rl d) = tsz rl d
  | .mk x l => by
    rw [trw, tsz]
    have := trws_dss rl l
    cases look rl x with
    | none => simp only [Doc.dss, Doc.ds, this]; omega
    | some its => simp only [fls_dss, this]
theorem trws_dss (rl : TRl) : ∀ l : List Doc, Doc.dss (trws rl l) = tszs rl l
  | [] => rfl
  | d :: l => by rw [trws, tszs, dss_app, trw_dss rl d, trws_dss rl l]
end
theorem tsz_pos (rl : TRl) (d : Doc) : 0 ≤ tsz rl d := by rw [← trw_dss]; have := dss_len (trw rl d); omega
theorem look_mem {x : Str} {its : List It} : ∀ {rl : TRl}, look rl x = some its → (x, its) ∈ rl
  | (y, l) :: r, h => by
    rw [look] at h
    split at h
    · rename_i e; cases h; rw [e]; exact List.mem_cons_self
    · exact List.mem_cons_of_mem _ (look_mem h)
def RlD (rl : TRl) (w : Nat) : Prop := ∀ p ∈ rl, It.dps p.2 ≤ w
mutual
theorem trw_hts {rl : TRl} {w : Nat} (hw : 1 ≤ w) (h : RlD rl w) : ∀ d : Doc, Doc.hts (trw rl d) ≤ w * d.ht
  | .mk x l => by
    have h1 := trws_hts hw h l
    rw [trw, Doc.ht, Nat.mul_add, Nat.mul_one]
    cases e : look rl x with
    | none => simp only [Doc.hts, Doc.ht]; omega
    | some its =>
      have h2 := h _ (look_mem e)
      have h3 := fls_hts (trws rl l) its
      simp only at h2 ⊢
      omega
theorem trws_hts {rl : TRl} {w : Nat} (hw : 1 ≤ w) (h : RlD rl w) : ∀ l : List Doc, Doc.hts (trws rl l) ≤ w * Doc.hts l
  | [] => by rw [trws, Doc.hts]; omega
  | d :: l => by
    have h1 := trw_hts hw h d
    have h2 := trws_hts hw h l
    rw [trws, hts_app, Doc.hts]
    have a1 : w * d.ht ≤ w * max d.ht (Doc.hts l) := Nat.mul_le_mul_left _ (by omega)
    have a2 : w * Doc.hts l ≤ w * max d.ht (Doc.hts l) := Nat.mul_le_mul_left _ (by omega)
    omega
end
end
section
open PySem L2

def W4 (n : Nat) (x : Str) : Prop := Wd n x ∧ 42 ∉ x.cps.toList
theorem W4.app {a b : Nat} {x y : Str} (hx : W4 a x) (hy : W4 b y) : W4 (a + b) (x ++ y) := ⟨hx.1.app hy.1, fun h => by
  rw [app_cps] at h
  rcases List.mem_append.mp h with h | h
  · exact hx.2 h
  · exact hy.2 h⟩
theorem W4.cut {a : Nat} {x : Str} (hx : W4 a x) (lo hi : Option Int) : W4 a (cutS x lo hi) := ⟨hx.1.cut lo hi, fun h => hx.2 (List.mem_of_mem_drop (List.mem_of_mem_take h))⟩
theorem W4.le {a b : Nat} {x : Str} (hx : W4 a x) (h : a ≤ b) : W4 b x := ⟨hx.1.le h, hx.2⟩
theorem W4.join {ys : List Str} (h : ∀ y ∈ ys, W4 1 y) : W4 ys.length (Txt.join (Str.ofString "") ys) := ⟨Wd.join fun y hy => (h y hy).1, fun hc => by
  rw [join_cps] at hc
  obtain ⟨l, hl, hc⟩ := List.mem_flatten.mp hc
  obtain ⟨y, hy, rfl⟩ := List.mem_map.mp hl
  exact (h y hy).2 hc⟩
theorem abc42 : 42 ∉ (Str.ofString "abcdefghijklmnopqrstuvwxyz").cps.toList := by decide +kernel
theorem w_ixLt4 {i : Int} {h : MH} {Q : D → MH → Prop} {E : XE} (q : ∀ c, W4 1 ⟨#[c]⟩ → Q (.str ⟨#[c]⟩) h) : Sat (dIx (.str (Str.ofString "abcdefghijklmnopqrstuvwxyz")) (.int (i % 26)) h) Q E := by
  obtain ⟨a, b⟩ := mod_in i (n := 26) (by decide)
  obtain ⟨c, e, e2⟩ := atI_in (l := (Str.ofString "abcdefghijklmnopqrstuvwxyz").cps.toList) a (by rw [← str_len, lt_len]; exact b)
  have hm := List.mem_of_getElem? e2
  exact w_ixS (by rw [lt_len]; decide) e (q c ⟨ltrs_wd.sign hm, fun h => by
    have : (42 : Nat) = c := by simpa using h
    rw [← this] at hm
    exact abc42 hm⟩)
def W4s (n : Nat) (l : List D) : Prop := ∃ ns : List Str, l = ns.map .str ∧ ∀ x ∈ ns, W4 n x
theorem strs_all4 {n : Nat} : ∀ {ys : List D}, (∀ (i : Nat) y, ys[i]? = some y → ∃ x, y = .str x ∧ W4 n x) → W4s n ys
  | [], _ => ⟨[], rfl, fun x hx => by simp at hx⟩
  | y :: ys, h => by
    obtain ⟨x, rfl, hx⟩ := h 0 y rfl
    obtain ⟨ns, rfl, hn⟩ := strs_all4 (ys := ys) fun i z hz => h (i + 1) z (by simpa using hz)
    refine ⟨x :: ns, rfl, fun z hz => ?_⟩
    rcases List.mem_cons.mp hz with rfl | hz
    · exact hx
    · exact hn z hz
theorem W4s.app {n : Nat} {l m : List D} (hl : W4s n l) (hm : W4s n m) : W4s n (l ++ m) := by
  obtain ⟨a, rfl, ha⟩ := hl
  obtain ⟨b, rfl, hb⟩ := hm
  refine ⟨a ++ b, by simp, fun x hx => ?_⟩
  rcases List.mem_append.mp hx with h | h
  · exact ha x h
  · exact hb x h
theorem W4s.one {n : Nat} {x : Str} (h : W4 n x) : W4s n [.str x] := ⟨[x], rfl, fun y hy => by rw [List.mem_singleton.mp hy]; exact h⟩
theorem W4s.wd {n : Nat} {l : List D} (h : W4s n l) : Wds n l := by
  obtain ⟨a, e, ha⟩ := h
  exact ⟨a, e, fun x hx => (ha x hx).1⟩
theorem w_addW4 {a b : Nat} {x y : Str} {h : MH} {Q : D → MH → Prop} {E : XE} (hx : W4 a x) (hy : W4 b y) (c : a + b ≤ 1000000) (q : W4 (a + b) (x ++ y) → Q (.str (x ++ y)) h) : Sat (dAdd (.str x) (.str y) h) Q E :=
  w_addS (by have := hx.1.1; have := hy.1.1; omega) (q (hx.app hy))
theorem c_names4 {c : Int} {h : MH} : Sat (m_names_c11ae [.int c] h) (fun d h' => ∃ i l, d = .ref i ∧ Own h h' [(i, l)] ∧ l.length = 9 ∧ W4s 20 l) noX := by
  walk_at "fn"
  refine ⟨rfl, ?_⟩
  walk_at "go"
  refine o_comp (fun _ y => ∃ x, y = .str x ∧ W4 1 x) (Own.nil h) (by simp) (fun _ _ => rfl) ?_ ?_
  · intro i d h' hd _
    obtain ⟨hi, rfl⟩ := rangeD_get hd
    refine ⟨_, rfl, ?_⟩
    have hi' : i < 8 := hi
    walk_at "go"
    exact w_ixLt4 fun c hc => ⟨rfl, _, rfl, hc⟩
  intro ys hy hp i1 h1 o1
  obtain ⟨ns, rfl, hn⟩ := strs_all4 hp
  have hy8 : ns.length = 8 := by simpa using hy
  have sm : (ns.map (·.length)).sum ≤ 8 := by
    rw [← hy8]
    clear hp hy hy8 o1
    induction ns with
    | nil => simp
    | cons y ys ih =>
      have h1 := (hn y List.mem_cons_self).1.1
      have h2 := ih fun z hz => hn z (List.mem_cons_of_mem _ hz)
      simp only [List.map_cons, List.sum_cons, List.length_cons]
      omega
  walk_at "go"
  refine w_join (o1.atL 0 rfl) (by rw [show (Str.ofString "").length = 0 from rfl]; omega) ?_
  have hb := W4.join hn
  rw [hy8] at hb
  generalize Txt.join (Str.ofString "") ns = base at hb
  have hbl : base.length ≤ 8 := hb.1.1
  walk_at "go"
  refine br_d (fun c1 => ?_) (fun c1 => ?_)
  · walk_at "go"
    refine o_comp (fun _ y => ∃ x, y = .str x ∧ W4 20 x) o1.none (by simp) (fun _ _ => rfl) ?_ ?_
    · intro i d h' hd _
      obtain ⟨hi, rfl⟩ := rangeD_get hd
      have hi' : i < 9 := hi
      refine ⟨_, rfl, ?_⟩
      walk_at "go"
      refine w_ixLt4 fun c' hc => ?_
      refine w_addW4 (hb.cut _ _) hc (by decide) fun h5 => ?_
      walk_at "go"
      refine w_addW4 h5 (hb.cut _ _) (by decide) fun h6 => ?_
      exact ⟨rfl, _, rfl, h6.le (by decide)⟩
    · intro ys hy hp i2 h2 o2
      exact ⟨i2, ys, rfl, o2, by simpa using hy, strs_all4 hp⟩
  · walk_at "go"
    refine br_d (fun c2 => ?_) (fun c2 => ?_)
    · walk_at "go"
      refine o_comp (fun _ y => ∃ x, y = .str x ∧ W4 20 x) o1.none (by simp) (fun _ _ => rfl) ?_ ?_
      · intro i d h' hd _
        obtain ⟨hi, rfl⟩ := rangeD_get hd
        refine ⟨_, rfl, ?_⟩
        walk_at "go"
        exact ⟨rfl, _, rfl, (hb.cut _ _).le (by decide)⟩
      intro ys hy hp i2 h2 o2
      walk_at "go"
      refine o_new o2 (by simp) fun i3 h3 o3 => ?_
      refine o_add o3 (o3.at 1 rfl) (o3.at 0 rfl) (by simp at hy; simp [hy]) fun i4 h4 o4 => ?_
      exact ⟨i4, _, rfl, o4.head, by simp at hy; simp [hy], (strs_all4 hp).app (.one ((hb.cut _ _).le (by decide)))⟩
    · walk_at "go"
      refine o_comp (fun _ y => ∃ x, y = .str x ∧ W4 20 x) o1.none (by simp) (fun _ _ => rfl) ?_ ?_
      · intro i d h' hd _
        obtain ⟨hi, rfl⟩ := rangeD_get hd
        have hi' : i < 9 := hi
        refine ⟨_, rfl, ?_⟩
        walk_at "go"
        exact w_ixLt4 fun c hc => ⟨rfl, _, rfl, hc.le (by decide)⟩
      · intro ys hy hp i2 h2 o2
        exact ⟨i2, ys, rfl, o2, by simpa using hy, strs_all4 hp⟩
/-! items drawn -/
def NamOk (x : Str) : Prop := OkS x ∧ x ≠ star
theorem W4.nam {n : Nat} {x : Str} (h : W4 n x) : NamOk x := ⟨h.1.2, fun e => by
  have : (42 : Nat) ∈ star.cps.toList := by decide +kernel
  rw [← e] at this
  exact h.2 this⟩
def It.ok : Nat → It → Prop
  | _, .hole => True
  | 0, .nd _ _ => False
  | n + 1, .nd x l => NamOk x ∧ l.length ≤ 100 ∧ ∀ i ∈ l, i.ok n
theorem it_mono : ∀ {n m : Nat} {i : It}, i.ok n → n ≤ m → i.ok m
  | n, m, .hole, _, _ => by cases m <;> trivial
  | 0, m, .nd _ _, h, _ => h.elim
  | n + 1, 0, .nd _ _, _, h => by omega
  | n + 1, m + 1, .nd x l, h, hm => ⟨h.1, h.2.1, fun i hi => it_mono (h.2.2 i hi) (by omega)⟩
theorem pool_at {ns : List Str} (hl : ns.length = 9) {z : Int} (h0 : 0 ≤ z) (h1 : z < 9) : ∃ x, x ∈ ns ∧ atI (ns.map D.str) z = some (.str x) := by
  obtain ⟨d, e1, e2⟩ := atI_in (l := ns.map D.str) h0 (by simp; omega)
  rw [List.getElem?_map, Option.map_eq_some_iff] at e2
  obtain ⟨x, e3, rfl⟩ := e2
  exact ⟨x, List.mem_of_getElem? e3, e1⟩
end
section
open PySem L2

theorem sq_le2 {k : Int} (h : 0 ≤ k ∧ k ≤ 200) : 0 ≤ k * k ∧ k * k ≤ 40000 := ⟨Int.mul_nonneg h.1 h.1, Int.le_trans (Int.mul_le_mul h.2 h.2 h.1 (by decide)) (by decide)⟩
theorem c_mix2 {c k : Int} (hc : Cell c) (hk : 0 ≤ k ∧ k ≤ 200) {h : MH} : Sat (m_mix_1b9e1 [.int c, .int k] h) (fun d h' => h' = h ∧ ∃ v, d = .int v ∧ 0 ≤ v ∧ v < 2147483648) noX := by
  have hq := sq_le2 hk
  walk_at "fn"
  refine w_mulB (a := 1048577) (b := 64) ?_ (bits_small (by decide) (by decide)) (by decide) ?_
  · rw [Int.add_assoc]
    exact bits_addS hc (by omega) (by omega)
  walk_at "go"
  have hb := mod_in ((c + 1 + k * k) * 48271) (n := 2147483629) (by decide)
  generalize (c + 1 + k * k) * 48271 % 2147483629 = b at hb
  walk_at "go"
  have h2 := mod_in (b * (b / 128 + 69621 * k + 16807)) (n := 2147483587) (by decide)
  exact ⟨rfl, _, rfl, h2.1, by omega⟩
theorem c_tape2 {c : Int} (hc : Cell c) {n : Nat} (hn : n ≤ 200) {h : MH} : Sat (m_tape_92891 [.int c, .int n] h) (fun d h' => ∃ i l, d = .ref i ∧ Own h h' [(i, l)] ∧ Tp l) noX := by
  walk_at "fn"
  refine o_new (Own.nil h) (by simp) fun i h1 o1 => ?_
  walk_at "go"
  refine w_loop0 (fun k ρ h' => ∃ l r o4, ρ = [some (.int c), some (.int n), some (.ref i), some (.int r), o4] ∧ Own h h' [(i, l)] ∧ Tp l ∧ l.length = k) ⟨[], c, none, rfl, o1, Tp.nil, rfl⟩ (fun _ _ _ _ => rfl) ?_ ?_
  · rintro k d ρ h' hd ⟨l, r, o4, rfl, o, tl, hl⟩
    obtain ⟨hk, rfl⟩ := rangeD_get hd
    refine ⟨_, rfl, ?_⟩
    rw [Int.toNat_natCast] at hk
    dsimp only [List.set]
    walk_at "go"
    refine w_pow (n := 18) (by decide) ?_
    walk_at "go"
    refine br_d (fun c => ?_) (fun c => ?_)
    · walk_at "go"
      refine o_app o 0 rfl (by omega) fun h2 o2 => ?_
      walk_at "go"
      exact ⟨_, _, _, rfl, o2, tl.app (by have := mod_in r (n := 1000003) (by decide); omega), by simp [hl]⟩
    · walk_at "go"
      refine (c_mix2 hc (by omega)).mono ?_
      rintro d h2 ⟨rfl, v, rfl, hv⟩
      walk_at "go"
      refine o_app o 0 rfl (by omega) fun h2 o2 => ?_
      exact ⟨_, _, _, rfl, o2, tl.app hv, by simp [hl]⟩
  · rintro ρ h' ⟨l, r, o4, rfl, o, tl, hl⟩
    walk_at "go"
    refine o_rev o (o.atL 0 rfl) fun j h2 o2 => ?_
    exact ⟨j, _, rfl, o2.head, tl.rev⟩
/-! turners drawn -/
def rD (p : Str × List It) : D := .tup [.str p.1, .tup (p.2.map It.toD)]
structure ROk (rl : TRl) (w : Nat) : Prop where
  len : rl.length ≤ 20
  nm : ∀ p ∈ rl, NamOk p.1
  its : ∀ p ∈ rl, p.2.length ≤ 100 ∧ ∀ it ∈ p.2, it.ok w
end
section
open PySem L2

/-! equal values -/
def PyM (n k : Nat) (h : MH) (d : D) : Prop := ∃ e, pyOf n h d = some e ∧ PyData.canLay0 e = true ∧ PyData.depth e ≤ k
theorem pyM_all {n k : Nat} {h : MH} : ∀ {l : List D}, (∀ x ∈ l, PyM n k h x) → ∃ es, allSome (l.map (pyOf n h)) = some es ∧ PyData.canLayAll0 es = true ∧ PyData.depthAll es ≤ k
  | [], _ => ⟨[], rfl, rfl, Nat.zero_le _⟩
  | x :: l, hx => by
    obtain ⟨e, e1, e2, e3⟩ := hx x List.mem_cons_self
    obtain ⟨es, f1, f2, f3⟩ := pyM_all (l := l) fun y hy => hx y (List.mem_cons_of_mem _ hy)
    refine ⟨e :: es, ?_, ?_, ?_⟩
    · rw [List.map_cons, e1, allSome, f1]; rfl
    · rw [PyData.canLayAll0, e2, f2]; rfl
    · rw [PyData.depthAll]; omega
theorem PyM.tup {n k : Nat} {h : MH} {l : List D} (hl : ∀ x ∈ l, PyM n k h x) : PyM (n + 1) (k + 1) h (.tup l) := by
  obtain ⟨es, f1, f2, f3⟩ := pyM_all hl
  exact ⟨.tuple es, by rw [pyOf, f1]; rfl, by rw [PyData.canLay0]; exact f2, by rw [PyData.depth]; omega⟩
theorem pyM_str {n k : Nat} {h : MH} {x : Str} (hx : OkS x) : PyM (n + 1) k h (.str x) := ⟨.str x, rfl, scal_str.lay x hx, Nat.zero_le _⟩
theorem star_ok : OkS star := by unfold OkS; decide +kernel
theorem it_py {h : MH} : ∀ (w n k : Nat) (i : It), i.ok w → 2 * w + 1 ≤ n → 2 * w ≤ k → PyM n k h i.toD
  | w, n + 1, k, .hole, _, _, _ => by
    rw [It.toD]
    exact pyM_str star_ok
  | w + 1, n + 3, k + 2, .nd x l, hi, hn, hk => by
    rw [it_nd]
    obtain ⟨h1, h2, h3⟩ := hi
    refine PyM.tup (n := n + 2) (k := k + 1) fun y hy => ?_
    simp only [List.mem_cons, List.not_mem_nil, or_false] at hy
    rcases hy with rfl | rfl
    · exact pyM_str h1.1
    · refine PyM.tup (n := n + 1) (k := k) fun y hy => ?_
      obtain ⟨j, hj, rfl⟩ := List.mem_map.mp hy
      exact it_py w (n + 1) k j (h3 j hj) (by omega) (by omega)
  | w, 0, _, _, _, h, _ => by omega
  | 0, n + 1, _, .nd _ _, h, _, _ => h.elim
  | w + 1, 1, _, .nd _ _, _, h, _ => by omega
  | w + 1, 2, _, .nd _ _, _, h, _ => by omega
  | w + 1, n + 3, 0, .nd _ _, _, _, h => by omega
  | w + 1, n + 3, 1, .nd _ _, _, _, h => by omega
theorem PyM.mono {n k m : Nat} {h : MH} {d : D} (p : PyM n k h d) (q : k ≤ m) : PyM n m h d := by
  obtain ⟨e, e1, e2, e3⟩ := p
  exact ⟨e, e1, e2, by omega⟩
theorem shaped_of {e : PyData} (e2 : PyData.canLay0 e = true) (e3 : PyData.depth e ≤ 160) : shapedX e = true := by unfold shapedX; rw [e2, decide_eq_true e3]; rfl
theorem eq_tup_str {h : MH} {l : List D} {x : Str} (p : PyM 200 160 h (.tup l)) (hx : OkS x) : eqD (.tup l) (.str x) h = some false := by
  obtain ⟨e, e1, e2, e3⟩ := p
  have et : ∃ es, e = .tuple es := by
    simp only [pyOf, Option.map_eq_some_iff] at e1
    obtain ⟨es, _, rfl⟩ := e1
    exact ⟨es, rfl⟩
  obtain ⟨es, rfl⟩ := et
  unfold eqD
  rw [if_neg (by simp [scalD]), e1]
  have s1 := shaped_of e2 e3
  have s2 : shapedX (.str x) = true := shaped_of (scal_str.lay x hx) (Nat.zero_le _)
  have p2 : pyOf 200 h (.str x) = some (.str x) := rfl
  simp only [p2, s1, s2, and_self, if_true]
  rfl
theorem w_isHole {i : It} {w : Nat} (hi : i.ok w) (hw : w ≤ 9) {h : MH} {Q : D → MH → Prop} {E : XE} (q : Q (.bl (match i with | .hole => true | .nd _ _ => false)) h) : Sat (dEq i.toD (.str (Str.ofString "*")) h) Q E := by
  cases i with
  | hole => exact w_eq (dEq_str _ _ _) (by simpa using q)
  | nd x l =>
    have p := it_py (h := h) w 200 160 (.nd x l) hi (by omega) (by omega)
    rw [it_nd] at p ⊢
    exact w_eqK (eq_tup_str p star_ok) q
theorem its_py {h : MH} {w : Nat} {its : List It} (hw : w ≤ 9) (hi : ∀ i ∈ its, i.ok w) : PyM 200 160 h (.tup (its.map It.toD)) := (PyM.tup (n := 199) (k := 20) fun y hy => by
  obtain ⟨j, hj, rfl⟩ := List.mem_map.mp hy
  exact it_py w 199 20 j (hi j hj) (by omega) (by omega)).mono (by decide)
theorem eq_its {h : MH} {w : Nat} {its : List It} (hw : w ≤ 9) (hi : ∀ i ∈ its, i.ok w) {x : Str} (hx : NamOk x) : eqD (.tup (its.map It.toD)) (.tup [.str x]) h = some false := by
  obtain ⟨e, e1, e2, e3⟩ := its_py (h := h) hw hi
  have s1 := shaped_of e2 e3
  have p2 : pyOf 200 h (.tup [.str x]) = some (.tuple [.str x]) := rfl
  have s2 : shapedX (.tuple [.str x]) = true := by
    refine shaped_of ?_ ?_
    · have := scal_str.lay x hx.1
      simp only [PyData.canLay0, PyData.canLayAll0] at this ⊢
      simpa using this
    · exact (by decide : (1 : Nat) ≤ 160)
  have ne : PyData.eqv e (.tuple [.str x]) = false := by
    simp only [pyOf, Option.map_eq_some_iff] at e1
    obtain ⟨es, q1, rfl⟩ := e1
    cases its with
    | nil => cases q1; rfl
    | cons i its =>
      rw [List.map_cons, List.map_cons] at q1
      cases i with
      | hole =>
        have : pyOf 199 h It.hole.toD = some (.str star) := rfl
        rw [this] at q1
        simp only [allSome, Option.map_eq_some_iff] at q1
        obtain ⟨r, _, rfl⟩ := q1
        simp only [PyData.eqv, PyData.eqvAll]
        have : (star == x) = false := by
          rw [beq_eq_false_iff_ne]
          exact fun z => hx.2 z.symm
        simp [Ne.symm hx.2]
      | nd y l =>
        rw [it_nd] at q1
        cases q : pyOf 199 h (.tup [.str y, .tup (l.map It.toD)]) with
        | none => rw [q] at q1; cases q1
        | some v =>
          rw [q] at q1
          simp only [allSome, Option.map_eq_some_iff] at q1
          obtain ⟨r, _, rfl⟩ := q1
          simp only [pyOf, Option.map_eq_some_iff] at q
          obtain ⟨vs, _, rfl⟩ := q
          simp [PyData.eqv, PyData.eqvAll]
  unfold eqD
  rw [if_neg (by simp [scalD]), e1]
  simp only [p2, s1, s2, and_self, if_true, ne]
theorem eq_own {h : MH} {x : Str} (hx : OkS x) : eqD (.tup [.str x]) (.tup [.str x]) h = some true := by
  have p2 : pyOf 200 h (.tup [.str x]) = some (.tuple [.str x]) := rfl
  have s2 : shapedX (.tuple [.str x]) = true := by
    refine shaped_of ?_ ?_
    · have := scal_str.lay x hx
      simp only [PyData.canLay0, PyData.canLayAll0] at this ⊢
      simpa using this
    · exact (by decide : (1 : Nat) ≤ 160)
  unfold eqD
  rw [if_neg (by simp [scalD]), p2]
  simp only [s2, and_self, if_true]
  simp [PyData.eqv, PyData.eqvAll]
/-! what the rules tell -/
section
variable {rl : TRl} {h : MH}
theorem cc_for {x : Str} (hl : rl.length ≤ 20) : Sat (m_for_39fc1 [.tup (rl.map rD), .str x] h) (fun d h' => h' = h ∧ d = match look rl x with
    | some its => .tup (its.map It.toD)
    | none => .tup [.str x]) noX := by
  walk_at "fn"
  refine w_loop0 (fun k ρ h' => h' = h ∧ (∃ o2, ρ = [some (.tup (rl.map rD)), some (.str x), o2]) ∧ look (rl.drop k) x = look rl x) ⟨rfl, ⟨none, rfl⟩, rfl⟩ (fun _ _ _ _ => rfl) ?_ ?_
  · rintro k d ρ h' hd ⟨rfl, ⟨o2, rfl⟩, hk⟩
    rw [List.getElem?_map, Option.map_eq_some_iff] at hd
    obtain ⟨⟨y, its⟩, ep, rfl⟩ := hd
    obtain ⟨hlt, hge⟩ := List.getElem?_eq_some_iff.mp ep
    rw [List.drop_eq_getElem_cons hlt, hge, look] at hk
    refine ⟨_, rfl, ?_⟩
    unfold rD
    dsimp only [List.set]
    walk_at "go"
    refine br_d (fun c => ?_) (fun c => ?_)
    · walk_at "go"
      rw [if_pos c] at hk
      rw [← hk]
      exact ⟨rfl, rfl⟩
    · walk_at "go"
      rw [if_neg c] at hk
      exact ⟨rfl, ⟨_, rfl⟩, hk⟩
  · rintro ρ h' ⟨rfl, ⟨o2, rfl⟩, hk⟩
    rw [List.length_map, List.drop_length, look] at hk
    walk_at "go"
    rw [← hk]
    exact ⟨rfl, rfl⟩
theorem cc_itemsfor {x : Str} (hl : rl.length ≤ 20) : Sat (m_items_for_2ec27 [.tup (rl.map rD), .str x] h) (fun d h' => h' = h ∧ d = match look rl x with
    | some its => .tup (its.map It.toD)
    | none => .non) noX := by
  walk_at "fn"
  refine w_loop0 (fun k ρ h' => h' = h ∧ (∃ o2, ρ = [some (.tup (rl.map rD)), some (.str x), o2]) ∧ look (rl.drop k) x = look rl x) ⟨rfl, ⟨none, rfl⟩, rfl⟩ (fun _ _ _ _ => rfl) ?_ ?_
  · rintro k d ρ h' hd ⟨rfl, ⟨o2, rfl⟩, hk⟩
    rw [List.getElem?_map, Option.map_eq_some_iff] at hd
    obtain ⟨⟨y, its⟩, ep, rfl⟩ := hd
    obtain ⟨hlt, hge⟩ := List.getElem?_eq_some_iff.mp ep
    rw [List.drop_eq_getElem_cons hlt, hge, look] at hk
    refine ⟨_, rfl, ?_⟩
    unfold rD
    dsimp only [List.set]
    walk_at "go"
    refine br_d (fun c => ?_) (fun c => ?_)
    · walk_at "go"
      rw [if_pos c] at hk
      rw [← hk]
      exact ⟨rfl, rfl⟩
    · walk_at "go"
      rw [if_neg c] at hk
      exact ⟨rfl, ⟨_, rfl⟩, hk⟩
  · rintro ρ h' ⟨rfl, ⟨o2, rfl⟩, hk⟩
    rw [List.length_map, List.drop_length, look] at hk
    walk_at "go"
    rw [← hk]
    exact ⟨rfl, rfl⟩
end
theorem szs_snoc (s : Int) (i : It) : ∀ l : List It, It.szs s (l ++ [i]) = It.szs s l + i.sz s
  | [] => by simp only [List.nil_append, It.szs]; omega
  | j :: l => by rw [List.cons_append, It.szs, szs_snoc s i l, It.szs]; omega
theorem fls_snoc (row : List Doc) (i : It) : ∀ l : List It, It.fls row (l ++ [i]) = It.fls row l ++ i.fl row
  | [] => by simp [It.fls]
  | j :: l => by rw [List.cons_append, It.fls, fls_snoc row i l, It.fls, List.append_assoc]
theorem take_s7 {α : Type} {l : List α} {k : Nat} {x : α} (e : l[k]? = some x) : l.take (k + 1) = l.take k ++ [x] := by
  rw [List.take_succ, e]; rfl
theorem cc_size {s : Int} : ∀ (t w : Nat) (its : List It) (h : MH), w < t → w ≤ 9 → (∀ i ∈ its, i.ok w) → Sat (m_size_05894 t [.tup (its.map It.toD), .int s] h) (fun d h' => h' = h ∧ d = .int (It.szs s its)) noX
  | 0, w, its, h, h1, _, _ => by omega
  | t + 1, w, its, h, h1, hw, hi => by
    unfold m_size_05894
    walk_at "fn"
    refine w_loop0 (fun k ρ h' => h' = h ∧ ∃ o3, ρ = [some (.tup (its.map It.toD)), some (.int s), some (.int (It.szs s (its.take k))), o3]) ⟨rfl, none, rfl⟩ (fun _ _ _ _ => rfl) ?_ ?_
    · rintro k d ρ h' hd ⟨rfl, o3, rfl⟩
      rw [List.getElem?_map, Option.map_eq_some_iff] at hd
      obtain ⟨i, ei, rfl⟩ := hd
      have him := hi i (List.mem_of_getElem? ei)
      refine ⟨_, rfl, ?_⟩
      dsimp only [List.set]
      walk_at "go"
      refine w_isHole him hw ?_
      rw [take_s7 ei, szs_snoc]
      cases i with
      | hole =>
        walk_at "go"
        exact ⟨rfl, _, rfl⟩
      | nd x l =>
        cases w with
        | zero => exact him.elim
        | succ w =>
          rw [it_nd]
          walk_at "go"
          refine (cc_size t w l h' (by omega) (by omega) him.2.2).mono ?_
          rintro d h2 ⟨rfl, rfl⟩
          walk_at "go"
          refine ⟨rfl, some (.tup [.str x, .tup (l.map It.toD)]), ?_⟩
          rw [It.sz, Int.add_assoc]
    · rintro ρ h' ⟨rfl, o3, rfl⟩
      rw [List.length_map, List.take_length]
      walk_at "go"
      exact ⟨rfl, rfl⟩
theorem cc_fsize {s : Int} : ∀ (t w : Nat) (its : List It) (h : MH), w < t → w ≤ 9 → (∀ i ∈ its, i.ok w) → Sat (m_filled_size_5412a t [.tup (its.map It.toD), .int s] h) (fun d h' => h' = h ∧ d = .int (It.szs s its)) noX
  | 0, w, its, h, h1, _, _ => by omega
  | t + 1, w, its, h, h1, hw, hi => by
    unfold m_filled_size_5412a
    walk_at "fn"
    refine w_loop0 (fun k ρ h' => h' = h ∧ ∃ o3, ρ = [some (.tup (its.map It.toD)), some (.int s), some (.int (It.szs s (its.take k))), o3]) ⟨rfl, none, rfl⟩ (fun _ _ _ _ => rfl) ?_ ?_
    · rintro k d ρ h' hd ⟨rfl, o3, rfl⟩
      rw [List.getElem?_map, Option.map_eq_some_iff] at hd
      obtain ⟨i, ei, rfl⟩ := hd
      have him := hi i (List.mem_of_getElem? ei)
      refine ⟨_, rfl, ?_⟩
      dsimp only [List.set]
      walk_at "go"
      refine w_isHole him hw ?_
      rw [take_s7 ei, szs_snoc]
      cases i with
      | hole =>
        walk_at "go"
        exact ⟨rfl, _, rfl⟩
      | nd x l =>
        cases w with
        | zero => exact him.elim
        | succ w =>
          rw [it_nd]
          walk_at "go"
          refine (cc_fsize t w l h' (by omega) (by omega) him.2.2).mono ?_
          rintro d h2 ⟨rfl, rfl⟩
          walk_at "go"
          refine ⟨rfl, some (.tup [.str x, .tup (l.map It.toD)]), ?_⟩
          rw [It.sz, Int.add_assoc]
    · rintro ρ h' ⟨rfl, o3, rfl⟩
      rw [List.length_map, List.take_length]
      walk_at "go"
      exact ⟨rfl, rfl⟩
theorem hhs_take : ∀ {l : List It} {k : Nat} {i : It}, l[k]? = some i → i.hh = true → It.hhs l = true
  | j :: l, 0, i, e, h => by simp at e; rw [It.hhs, e, h]; rfl
  | j :: l, k + 1, i, e, h => by
    rw [List.getElem?_cons_succ] at e
    rw [It.hhs, hhs_take e h]
    simp
theorem hhs_none : ∀ {l : List It}, (∀ i ∈ l, i.hh = false) → It.hhs l = false
  | [], _ => rfl
  | i :: l, h => by rw [It.hhs, h i List.mem_cons_self, hhs_none fun j hj => h j (List.mem_cons_of_mem _ hj)]; rfl
theorem cc_hashole : ∀ (t w : Nat) (its : List It) (h : MH), w < t → w ≤ 9 → (∀ i ∈ its, i.ok w) → Sat (m_has_hole_6be3c t [.tup (its.map It.toD)] h) (fun d h' => h' = h ∧ d = .bl (It.hhs its)) noX
  | 0, w, its, h, h1, _, _ => by omega
  | t + 1, w, its, h, h1, hw, hi => by
    unfold m_has_hole_6be3c
    walk_at "fn"
    refine w_loop0 (fun k ρ h' => h' = h ∧ (∃ o1, ρ = [some (.tup (its.map It.toD)), o1]) ∧ ∀ i ∈ its.take k, i.hh = false) ⟨rfl, ⟨none, rfl⟩, fun i hi => by simp at hi⟩ (fun _ _ _ _ => rfl) ?_ ?_
    · rintro k d ρ h' hd ⟨rfl, ⟨o1, rfl⟩, hk⟩
      rw [List.getElem?_map, Option.map_eq_some_iff] at hd
      obtain ⟨i, ei, rfl⟩ := hd
      have him := hi i (List.mem_of_getElem? ei)
      refine ⟨_, rfl, ?_⟩
      dsimp only [List.set]
      walk_at "go"
      refine w_isHole him hw ?_
      cases i with
      | hole =>
        walk_at "go"
        rw [hhs_take ei rfl]
        exact ⟨rfl, rfl⟩
      | nd x l =>
        cases w with
        | zero => exact him.elim
        | succ w =>
          rw [it_nd]
          walk_at "go"
          refine (cc_hashole t w l h' (by omega) (by omega) him.2.2).mono ?_
          rintro d h2 ⟨rfl, rfl⟩
          walk_at "go"
          cases hh : It.hhs l with
          | true =>
            walk_at "go"
            rw [hhs_take ei (by rw [It.hh]; exact hh)]
            exact ⟨rfl, rfl⟩
          | false =>
            walk_at "go"
            refine ⟨rfl, ⟨_, rfl⟩, ?_⟩
            rw [take_s7 ei]
            exact mem_app hk (by rw [It.hh]; exact hh)
    · rintro ρ h' ⟨rfl, ⟨o1, rfl⟩, hk⟩
      rw [List.length_map, List.take_length] at hk
      walk_at "go"
      rw [hhs_none hk]
      exact ⟨rfl, rfl⟩
end
section
open PySem L2

theorem isN_tup (l : List D) (h : MH) : dIsN (.tup l) .non h = .ok (.bl false) h := by rw [dIsN_ev]; rfl
theorem o_ext7 {h0 h : MH} {L : LL} {Q : D → MH → Prop} {E : XE} {i j : Nat} {l m : List D} (o : Own h0 h L) (n : Nat) (e : L[n]? = some (i, l)) (g : h[j]? = some (.lst m)) (c : l.length + m.length ≤ 1000000) (q : ∀ h', Own h0 h' (L.set n (i, l ++ m)) → Q .non h') : Sat (dExtend (.ref i) [.ref j] h) Q E :=
  w_eq (by simp only [dExtend, o.at n e, g, if_pos c]) (q _ (o.setAt n e (l ++ m)))
theorem o_listT7 {h0 h : MH} {L : LL} {l : List D} {Q : D → MH → Prop} {E : XE} (o : Own h0 h L) (q : ∀ i h', Own h0 h' ((i, l) :: L) → Q (.ref i) h') : Sat (dList [.tup l] h) Q E := w_eq (by simp [dList, seqOf]) (q _ _ (o.alloc _))
theorem szs_take {s : Int} (hs : 0 ≤ s) (its : List It) (k : Nat) : It.szs s (its.take k) ≤ It.szs s its := by
  have app : ∀ a b : List It, It.szs s (a ++ b) = It.szs s a + It.szs s b := fun a b => by
    induction a with
    | nil => simp [It.szs]
    | cons i a ih => rw [List.cons_append, It.szs, ih, It.szs]; omega
  have h1 := app (its.take k) (its.drop k)
  rw [List.take_append_drop] at h1
  have h2 := szs_pos hs (its.drop k)
  omega
theorem szs_mem {s : Int} (hs : 0 ≤ s) : ∀ {its : List It} {i : It}, i ∈ its → i.sz s ≤ It.szs s its
  | j :: its, i, h => by
    rw [It.szs]
    have h1 := sz_pos hs j
    have h2 := szs_pos hs its
    rcases List.mem_cons.mp h with rfl | h
    · omega
    · have := szs_mem hs h; omega
theorem fls_len {row : List Doc} {its : List It} (k : Nat) : ((It.fls row (its.take k)).length : Int) ≤ It.szs (Doc.dss row) its := by
  have h0 : 0 ≤ Doc.dss row := by have := dss_len row; omega
  have h1 := dss_len (It.fls row (its.take k))
  rw [fls_dss] at h1
  have h2 := szs_take h0 its k
  omega
/-! the program's turning -/
theorem tszs_snoc (rl : TRl) (d : Doc) : ∀ l : List Doc, tszs rl (l ++ [d]) = tszs rl l + tsz rl d
  | [] => by simp only [List.nil_append, tszs]; omega
  | e :: l => by rw [List.cons_append, tszs, tszs_snoc rl d l, tszs]; omega
theorem trws_snoc (rl : TRl) (d : Doc) : ∀ l : List Doc, trws rl (l ++ [d]) = trws rl l ++ trw rl d
  | [] => by simp [trws]
  | e :: l => by rw [List.cons_append, trws, trws_snoc rl d l, trws, List.append_assoc]
section
variable {rl : TRl} (hr : ROk rl 4)
include hr
end
end
section
open PySem L2

abbrev okT (h : MH) : D → MH → Prop := fun r h' => h <+: h' ∧ r = .bl true
theorem same_str {t : Nat} {x : Str} {h : MH} : Sat (m_same_3d8da (t + 1) [.str x, .str x] h) (okT h) noX := by
  unfold m_same_3d8da
  walk_at "fn"
  refine w_eq (isi_tup_str _ _) ?_
  walk_at "go"
  exact ⟨List.prefix_rfl, by simp⟩
theorem same_all {t : Nat} {A : List D} {h : MH} (hl : A.length ≤ 5000) (ha : ∀ a ∈ A, ∀ h', Sat (m_same_3d8da t [a, a] h') (okT h') noX) : Sat (m_same_3d8da (t + 1) [.tup A, .tup A] h) (okT h) noX := by
  unfold m_same_3d8da
  walk_at "fn"
  refine w_zipT ?_
  walk_at "go"
  refine w_zipTK ?_
  dsimp only
  refine o_compS (σ := Unit) (fun _ => []) (fun k acc _ => acc = (List.replicate k true).map .bl) (s0 := ()) (Own.nil h) rfl (by rw [zipD_length]; omega) (fun _ _ _ _ _ => rfl) ?_ ?_
  · rintro i d acc _ c h' hd hai hI ow
    obtain ⟨x, y, ex, ey, rfl⟩ := zipD_get hd
    rw [ex] at ey
    cases ey
    refine ⟨_, rfl, ?_⟩
    dsimp only [wipeD, List.set]
    walk_at "go"
    refine (ha x (List.mem_of_getElem? ex) h').mono ?_
    rintro r h2 ⟨p2, rfl⟩
    refine ⟨(), ow.ext p2, ?_⟩
    rw [hI, List.replicate_succ', List.map_append]
    rfl
  · rintro acc _ c h' hai hI ow
    subst hI
    walk_at "go"
    refine w_all (ow.atL 0 rfl) ?_
    refine ⟨ow.pre, ?_⟩
    congr 1
    rw [List.all_eq_true]
    intro b hb
    rw [List.eq_of_mem_replicate hb]
    rfl
theorem same_both : ∀ n : Nat, (∀ (t : Nat) (d : Doc) (h : MH), d.fit n → 2 * n + 1 ≤ t → Sat (m_same_3d8da t [d.toD, d.toD] h) (okT h) noX) ∧ ∀ (t : Nat) (l : List Doc) (h : MH), (∀ d ∈ l, d.fit n) → l.length ≤ 5000 → 2 * n + 2 ≤ t → Sat (m_same_3d8da t [.tup (l.map Doc.toD), .tup (l.map Doc.toD)] h) (okT h) noX := by
  have rowOf : ∀ n, (∀ (t : Nat) (d : Doc) (h : MH), d.fit n → 2 * n + 1 ≤ t → Sat (m_same_3d8da t [d.toD, d.toD] h) (okT h) noX) → ∀ (t : Nat) (l : List Doc) (h : MH), (∀ d ∈ l, d.fit n) → l.length ≤ 5000 → 2 * n + 2 ≤ t → Sat (m_same_3d8da t [.tup (l.map Doc.toD), .tup (l.map Doc.toD)] h) (okT h) noX := by
    intro n hd t l h hl hlen ht
    obtain ⟨t, rfl⟩ : ∃ t', t = t' + 1 := ⟨t - 1, by omega⟩
    refine same_all (by simpa using hlen) fun a ha h' => ?_
    obtain ⟨d, hdm, rfl⟩ := List.mem_map.mp ha
    exact hd t d h' (hl d hdm) (by omega)
  intro n
  induction n with
  | zero =>
    have h0 : ∀ (t : Nat) (d : Doc) (h : MH), d.fit 0 → 2 * 0 + 1 ≤ t → Sat (m_same_3d8da t [d.toD, d.toD] h) (okT h) noX := fun t d h hf => hf.elim
    exact ⟨h0, rowOf 0 h0⟩
  | succ n ih =>
    have hdoc : ∀ (t : Nat) (d : Doc) (h : MH), d.fit (n + 1) → 2 * (n + 1) + 1 ≤ t → Sat (m_same_3d8da t [d.toD, d.toD] h) (okT h) noX := by
      intro t d h hf ht
      obtain ⟨x, l⟩ := d
      obtain ⟨t, rfl⟩ : ∃ t', t = t' + 2 := ⟨t - 2, by omega⟩
      rw [toD_mk]
      refine same_all (by simp) fun a ha h' => ?_
      simp only [List.mem_cons, List.not_mem_nil, or_false] at ha
      rcases ha with rfl | rfl
      · exact same_str
      · exact ih.2 (t + 1) l h' hf.2 hf.1 (by omega)
    exact ⟨hdoc, rowOf (n + 1) hdoc⟩
theorem it_dp : ∀ {w : Nat} {i : It}, i.ok w → i.dp ≤ w
  | w, .hole, _ => by rw [It.dp]; omega
  | 0, .nd _ _, h => h.elim
  | w + 1, .nd x l, h => by
    have key : ∀ l : List It, (∀ i ∈ l, i.dp ≤ w) → It.dps l ≤ w := fun l => by
      induction l with
      | nil => intro _; rw [It.dps]; omega
      | cons i l ih =>
        intro hh
        have h1 := hh i List.mem_cons_self
        have h2 := ih fun j hj => hh j (List.mem_cons_of_mem _ hj)
        rw [It.dps]; omega
    have := key l fun i hi => it_dp (h.2.2 i hi)
    rw [It.dp]; omega
theorem its_dp {w : Nat} : ∀ {l : List It}, (∀ i ∈ l, i.ok w) → It.dps l ≤ w
  | [], _ => by rw [It.dps]; omega
  | i :: l, h => by
    have h1 := it_dp (h i List.mem_cons_self)
    have h2 := its_dp fun j hj => h j (List.mem_cons_of_mem _ hj)
    rw [It.dps]; omega
section
variable {rl : TRl} (hr : ROk rl 4)
include hr
end
end
section
open PySem L2
/-! two turners in one, in plain words -/
mutual
def It.fi (R : List It) : It → List It
  | .hole => R
  | .nd x l => [.nd x (It.fis R l)]
def It.fis (R : List It) : List It → List It
  | [] => []
  | i :: l => i.fi R ++ It.fis R l
end
mutual
def It.dq (s : Int) : It → Int
  | .hole => s
  | .nd _ l => 1 + It.dqs s l
def It.dqs (s : Int) : List It → Int
  | [] => 0
  | i :: l => max (i.dq s) (It.dqs s l)
end
mutual
def It.c1 (s : TRl) : It → List It
  | .hole => [.hole]
  | .nd x l => match look s x with
    | none => [.nd x (It.cs s l)]
    | some r => It.fis (It.cs s l) r
def It.cs (s : TRl) : List It → List It
  | [] => []
  | i :: l => i.c1 s ++ It.cs s l
end
mutual
def It.cz1 (s : TRl) : It → Int
  | .hole => 1
  | .nd x l => match look s x with
    | none => 1 + It.czs s l
    | some r => It.szs (It.czs s l) r
def It.czs (s : TRl) : List It → Int
  | [] => 0
  | i :: l => i.cz1 s + It.czs s l
end
mutual
def It.cd1 (s : TRl) : It → Int
  | .hole => 1
  | .nd x l => match look s x with
    | none => 1 + It.cds s l
    | some r => It.dqs (It.cds s l) r
def It.cds (s : TRl) : List It → Int
  | [] => 0
  | i :: l => max (i.cd1 s) (It.cds s l)
end
theorem szs_app74 (s : Int) : ∀ a b : List It, It.szs s (a ++ b) = It.szs s a + It.szs s b
  | [], b => by simp [It.szs]
  | i :: a, b => by rw [List.cons_append, It.szs, szs_app74 s a b, It.szs]; omega
theorem fls_app74 (R : List Doc) : ∀ a b : List It, It.fls R (a ++ b) = It.fls R a ++ It.fls R b
  | [], b => by simp [It.fls]
  | i :: a, b => by rw [List.cons_append, It.fls, fls_app74 R a b, It.fls, List.append_assoc]
mutual
theorem dq_pos74 {s : Int} (hs : 0 ≤ s) : ∀ i : It, 0 ≤ i.dq s
  | .hole => hs
  | .nd x l => by rw [It.dq]; have := dqs_pos74 hs l; omega
theorem dqs_pos74 {s : Int} (hs : 0 ≤ s) : ∀ l : List It, 0 ≤ It.dqs s l
  | [] => by rw [It.dqs]; omega
  | i :: l => by rw [It.dqs]; have := dqs_pos74 hs l; omega
end
theorem dqs_app74 {s : Int} (hs : 0 ≤ s) : ∀ a b : List It, It.dqs s (a ++ b) = max (It.dqs s a) (It.dqs s b)
  | [], b => by have := dqs_pos74 hs b; rw [List.nil_append, It.dqs]; omega
  | i :: a, b => by rw [List.cons_append, It.dqs, dqs_app74 hs a b, It.dqs]; omega
theorem dqs_snoc74 {s : Int} (hs : 0 ≤ s) (i : It) (l : List It) : It.dqs s (l ++ [i]) = max (It.dqs s l) (i.dq s) := by
  rw [dqs_app74 hs, It.dqs, It.dqs]
  have := dq_pos74 hs i
  omega
mutual
theorem fi_sz74 (k : Int) (R : List It) : ∀ i : It, It.szs k (i.fi R) = i.sz (It.szs k R)
  | .hole => by rw [It.fi, It.sz]
  | .nd x l => by rw [It.fi, It.szs, It.szs, It.sz, It.sz, fis_sz74 k R l]; omega
theorem fis_sz74 (k : Int) (R : List It) : ∀ l : List It, It.szs k (It.fis R l) = It.szs (It.szs k R) l
  | [] => rfl
  | i :: l => by rw [It.fis, szs_app74, fi_sz74 k R i, fis_sz74 k R l, It.szs]
end
mutual
theorem fi_dq74 {k : Int} (hk : 0 ≤ k) (R : List It) : ∀ i : It, It.dqs k (i.fi R) = i.dq (It.dqs k R)
  | .hole => by rw [It.fi, It.dq]
  | .nd x l => by
    rw [It.fi, It.dqs, It.dqs, It.dq, It.dq, fis_dq74 hk R l]
    have := dqs_pos74 (dqs_pos74 hk R) l
    omega
theorem fis_dq74 {k : Int} (hk : 0 ≤ k) (R : List It) : ∀ l : List It, It.dqs k (It.fis R l) = It.dqs (It.dqs k R) l
  | [] => rfl
  | i :: l => by rw [It.fis, dqs_app74 hk, fi_dq74 hk R i, fis_dq74 hk R l, It.dqs]
end
mutual
theorem c1_sz74 (s : TRl) : ∀ i : It, It.szs 1 (i.c1 s) = i.cz1 s
  | .hole => by simp [It.c1, It.cz1, It.szs, It.sz]
  | .nd x l => by
    rw [It.c1, It.cz1]
    cases look s x with
    | none => simp only [It.szs, It.sz, cs_sz74 s l]; omega
    | some r => simp only [fis_sz74, cs_sz74 s l]
theorem cs_sz74 (s : TRl) : ∀ l : List It, It.szs 1 (It.cs s l) = It.czs s l
  | [] => rfl
  | i :: l => by rw [It.cs, szs_app74, c1_sz74 s i, cs_sz74 s l, It.czs]
end
mutual
theorem c1_dq74 (s : TRl) : ∀ i : It, It.dqs 1 (i.c1 s) = i.cd1 s
  | .hole => by simp [It.c1, It.cd1, It.dqs, It.dq]; omega
  | .nd x l => by
    rw [It.c1, It.cd1]
    cases look s x with
    | none =>
      have := dqs_pos74 (s := 1) (by decide) (It.cs s l)
      simp only [It.dqs, It.dq, cs_dq74 s l] at this ⊢
      omega
    | some r => simp only [fis_dq74 (show (0 : Int) ≤ 1 by decide), cs_dq74 s l]
theorem cs_dq74 (s : TRl) : ∀ l : List It, It.dqs 1 (It.cs s l) = It.cds s l
  | [] => rfl
  | i :: l => by rw [It.cs, dqs_app74 (by decide), c1_dq74 s i, cs_dq74 s l, It.cds]
end
theorem czs_pos74 (s : TRl) (l : List It) : 0 ≤ It.czs s l := by rw [← cs_sz74]; exact szs_pos (by decide) _
theorem cds_pos74 (s : TRl) (l : List It) : 0 ≤ It.cds s l := by rw [← cs_dq74]; exact dqs_pos74 (by decide) _
theorem czs_snoc74 (s : TRl) (i : It) : ∀ l : List It, It.czs s (l ++ [i]) = It.czs s l + i.cz1 s
  | [] => by simp [It.czs]
  | j :: l => by rw [List.cons_append, It.czs, czs_snoc74 s i l, It.czs]; omega
theorem cd1_pos74 (s : TRl) (i : It) : 0 ≤ i.cd1 s := by rw [← c1_dq74]; exact dqs_pos74 (by decide) _
theorem cds_snoc74 (s : TRl) (i : It) : ∀ l : List It, It.cds s (l ++ [i]) = max (It.cds s l) (i.cd1 s)
  | [] => by have := cd1_pos74 s i; simp only [List.nil_append, It.cds]; omega
  | j :: l => by rw [List.cons_append, It.cds, cds_snoc74 s i l, It.cds]; omega
theorem cs_snoc74 (s : TRl) (i : It) : ∀ l : List It, It.cs s (l ++ [i]) = It.cs s l ++ i.c1 s
  | [] => by simp [It.cs]
  | j :: l => by rw [List.cons_append, It.cs, cs_snoc74 s i l, It.cs, List.append_assoc]
mutual
theorem fi_no74 (R : List It) : ∀ i : It, i.hh = false → i.fi R = [i]
  | .hole, h => by rw [It.hh] at h; cases h
  | .nd x l, h => by rw [It.fi, fis_no74 R l (by rw [It.hh] at h; exact h)]
theorem fis_no74 (R : List It) : ∀ l : List It, It.hhs l = false → It.fis R l = l
  | [], _ => rfl
  | i :: l, h => by
    rw [It.hhs, Bool.or_eq_false_iff] at h
    rw [It.fis, fi_no74 R i h.1, fis_no74 R l h.2]
    rfl
end
mutual
theorem fl_fi74 (R : List Doc) (A : List It) : ∀ i : It, It.fls R (i.fi A) = i.fl (It.fls R A)
  | .hole => by rw [It.fi, It.fl]
  | .nd x l => by rw [It.fi, It.fls, It.fls, It.fl, It.fl, fls_fis74 R A l, List.append_nil]
theorem fls_fis74 (R : List Doc) (A : List It) : ∀ l : List It, It.fls R (It.fis A l) = It.fls (It.fls R A) l
  | [] => rfl
  | i :: l => by rw [It.fis, fls_app74, fl_fi74 R A i, fls_fis74 R A l, It.fls]
end
theorem trws_app74 (s : TRl) : ∀ a b : List Doc, trws s (a ++ b) = trws s a ++ trws s b
  | [], b => by simp [trws]
  | d :: a, b => by rw [List.cons_append, trws, trws_app74 s a b, trws, List.append_assoc]
mutual
theorem trws_fl74 (s : TRl) (R : List Doc) : ∀ i : It, trws s (i.fl R) = It.fls (trws s R) (i.c1 s)
  | .hole => by rw [It.fl, It.c1, It.fls, It.fl, It.fls, List.append_nil]
  | .nd x l => by
    have h := trws_fls74 s R l
    rw [It.fl, trws, trws, List.append_nil, It.c1, trw]
    cases look s x with
    | none => simp only [It.fls, It.fl, h, List.append_nil]
    | some r => simp only [fls_fis74, h]
theorem trws_fls74 (s : TRl) (R : List Doc) : ∀ l : List It, trws s (It.fls R l) = It.fls (trws s R) (It.cs s l)
  | [] => rfl
  | i :: l => by rw [It.fls, trws_app74, trws_fl74 s R i, trws_fls74 s R l, It.cs, fls_app74]
end
def ad74 (f s : TRl) : TRl := (s.filter fun p => (look f p.1).isNone).map fun p => (p.1, [.nd p.1 [.hole]])
def chR (f s : TRl) : TRl := (f ++ ad74 f s).map fun p => (p.1, It.cs s p.2)
theorem look_map74 (g : List It → List It) (x : Str) : ∀ l : TRl, look (l.map fun p => (p.1, g p.2)) x = (look l x).map g
  | [] => rfl
  | (y, its) :: l => by
    rw [List.map_cons, look, look]
    split
    · rfl
    · exact look_map74 g x l
theorem look_app74 (x : Str) (b : TRl) : ∀ a : TRl, look (a ++ b) x = match look a x with
    | some its => some its
    | none => look b x
  | [] => rfl
  | (y, its) :: a => by
    rw [List.cons_append, look, look]
    split
    · rfl
    · exact look_app74 x b a
theorem look_ad74 (f : TRl) (x : Str) (hx : look f x = none) : ∀ s : TRl, look (ad74 f s) x = (look s x).map fun _ => [.nd x [.hole]]
  | [] => rfl
  | (y, its) :: s => by
    have ih := look_ad74 f x hx s
    unfold ad74 at ih ⊢
    rw [look]
    by_cases z : y = x
    · subst z
      rw [List.filter_cons, if_pos (by simp [hx]), List.map_cons, look, if_pos rfl, if_pos rfl]
      rfl
    · rw [if_neg z, List.filter_cons]
      split
      · rw [List.map_cons, look, if_neg z]; exact ih
      · exact ih
theorem look_ch74 (f s : TRl) (x : Str) : look (chR f s) x = match look f x with
    | some its => some (It.cs s its)
    | none => (look s x).map fun _ => It.cs s [.nd x [.hole]] := by
  unfold chR
  rw [look_map74, look_app74]
  cases h : look f x with
  | some its => rfl
  | none =>
    simp only [look_ad74 f x h]
    cases look s x <;> rfl
mutual
/-- the one turner does what both do -/
theorem trw_ch74 (f s : TRl) : ∀ d : Doc, trw (chR f s) d = trws s (trw f d)
  | .mk x l => by
    have ih := trws_ch74 f s l
    rw [trw, trw, look_ch74]
    cases hf : look f x with
    | some its => simp only [trws_fls74, ih]
    | none =>
      cases hs : look s x with
      | some r => simp only [Option.map_some, ← trws_fls74, It.fls, It.fl, List.append_nil, trws, ih, trw, hs, It.cs, It.c1, fls_fis74]
      | none => simp only [Option.map_none, trws, trw, hs, ih, List.append_nil]
theorem trws_ch74 (f s : TRl) : ∀ l : List Doc, trws (chR f s) l = trws s (trws f l)
  | [] => rfl
  | d :: l => by rw [trws, trw_ch74 f s d, trws_ch74 f s l, ← trws_app74, trws]
end
/-! names, sizes, depth -/
mutual
def It.nk : It → Prop
  | .hole => True
  | .nd x l => NamOk x ∧ It.nks l
def It.nks : List It → Prop
  | [] => True
  | i :: l => i.nk ∧ It.nks l
end
theorem nks_iff74 : ∀ {l : List It}, It.nks l ↔ ∀ i ∈ l, i.nk
  | [] => by simp [It.nks]
  | i :: l => by rw [It.nks, nks_iff74]; simp
theorem ok_nk74 : ∀ {w : Nat} {i : It}, i.ok w → i.nk
  | w, .hole, _ => by cases w <;> trivial
  | 0, .nd _ _, h => h.elim
  | w + 1, .nd x l, h => ⟨h.1, nks_iff74.mpr fun i hi => ok_nk74 (h.2.2 i hi)⟩
theorem nks_app74 {a b : List It} (ha : It.nks a) (hb : It.nks b) : It.nks (a ++ b) := nks_iff74.mpr fun i hi => by
  rcases List.mem_append.mp hi with h | h
  · exact nks_iff74.mp ha i h
  · exact nks_iff74.mp hb i h
mutual
theorem fi_nk74 {R : List It} (hR : It.nks R) : ∀ i : It, i.nk → It.nks (i.fi R)
  | .hole, _ => by rw [It.fi]; exact hR
  | .nd x l, h => by rw [It.fi]; exact ⟨⟨h.1, fis_nk74 hR l h.2⟩, trivial⟩
theorem fis_nk74 {R : List It} (hR : It.nks R) : ∀ l : List It, It.nks l → It.nks (It.fis R l)
  | [], _ => trivial
  | i :: l, h => by rw [It.fis]; exact nks_app74 (fi_nk74 hR i h.1) (fis_nk74 hR l h.2)
end
def Rnk (s : TRl) : Prop := ∀ p ∈ s, It.nks p.2
mutual
theorem c1_nk74 {s : TRl} (hs : Rnk s) : ∀ i : It, i.nk → It.nks (i.c1 s)
  | .hole, _ => ⟨trivial, trivial⟩
  | .nd x l, h => by
    rw [It.c1]
    have ih := cs_nk74 hs l h.2
    cases e : look s x with
    | none => exact ⟨⟨h.1, ih⟩, trivial⟩
    | some r => exact fis_nk74 ih r (hs _ (look_mem e))
theorem cs_nk74 {s : TRl} (hs : Rnk s) : ∀ l : List It, It.nks l → It.nks (It.cs s l)
  | [], _ => trivial
  | i :: l, h => by rw [It.cs]; exact nks_app74 (c1_nk74 hs i h.1) (cs_nk74 hs l h.2)
end
theorem sz1_74 : ∀ i : It, 1 ≤ i.sz 1
  | .hole => by rw [It.sz]; omega
  | .nd x l => by rw [It.sz]; have := szs_pos (s := 1) (by decide) l; omega
theorem szs1_len74 : ∀ l : List It, (l.length : Int) ≤ It.szs 1 l
  | [] => by simp [It.szs]
  | i :: l => by rw [It.szs, List.length_cons]; have := sz1_74 i; have := szs1_len74 l; omega
theorem dqs_mem74 {s : Int} : ∀ {l : List It} {i : It}, i ∈ l → i.dq s ≤ It.dqs s l
  | j :: l, i, h => by
    rw [It.dqs]
    rcases List.mem_cons.mp h with rfl | h
    · omega
    · have := dqs_mem74 (s := s) h; omega
theorem szs_mem74 : ∀ {l : List It} {i : It}, i ∈ l → i.sz 1 ≤ It.szs 1 l
  | j :: l, i, h => by
    rw [It.szs]
    have h1 := sz1_74 j
    have h2 := szs_pos (s := 1) (by decide) l
    rcases List.mem_cons.mp h with rfl | h
    · omega
    · have := szs_mem74 h; omega
theorem ok_of74 : ∀ (n : Nat) (i : It), i.nk → i.sz 1 ≤ 101 → i.dq 1 ≤ (n : Int) → i.ok n
  | n, .hole, _, _, _ => by cases n <;> trivial
  | 0, .nd x l, _, _, h => by rw [It.dq] at h; have := dqs_pos74 (s := 1) (by decide) l; omega
  | n + 1, .nd x l, hn, hz, hd => by
    rw [It.sz] at hz
    rw [It.dq] at hd
    have hl := szs1_len74 l
    refine ⟨hn.1, by omega, fun i hi => ok_of74 n i (nks_iff74.mp hn.2 i hi) ?_ ?_⟩
    · have := szs_mem74 hi; omega
    · have := dqs_mem74 (s := 1) hi; omega
/-- the items of one rule, put together -/
theorem cs_ok74 {s : TRl} (hs : Rnk s) {l : List It} (hl : It.nks l) (hz : It.czs s l ≤ 40) (hd : It.cds s l ≤ 8) : (It.cs s l).length ≤ 100 ∧ ∀ i ∈ It.cs s l, i.ok 8 := by
  rw [← cs_sz74] at hz
  rw [← cs_dq74] at hd
  have h1 := szs1_len74 (It.cs s l)
  refine ⟨by omega, fun i hi => ok_of74 8 i (nks_iff74.mp (cs_nk74 hs l hl) i hi) ?_ ?_⟩
  · have := szs_mem74 hi; omega
  · have := dqs_mem74 (s := 1) hi; omega
/-! items as drawn -/
def It.lv : Nat → It → Prop
  | _, .hole => True
  | 0, .nd x l => NamOk x ∧ l = []
  | n + 1, .nd x l => NamOk x ∧ l.length ≤ 3 ∧ ∀ i ∈ l, i.lv n
theorem lv_mono74 : ∀ {n m : Nat} {i : It}, i.lv n → n ≤ m → i.lv m
  | n, m, .hole, _, _ => by cases m <;> trivial
  | 0, 0, .nd _ _, h, _ => h
  | 0, m + 1, .nd x l, h, _ => ⟨h.1, by rw [h.2]; simp, fun i hi => by rw [h.2] at hi; cases hi⟩
  | n + 1, 0, .nd _ _, _, h => by omega
  | n + 1, m + 1, .nd x l, h, hm => ⟨h.1, h.2.1, fun i hi => lv_mono74 (h.2.2 i hi) (by omega)⟩
theorem lv_ok74 : ∀ {n : Nat} {i : It}, i.lv n → i.ok (n + 1)
  | n, .hole, _ => by trivial
  | 0, .nd x l, h => ⟨h.1, by rw [h.2]; simp, fun i hi => by rw [h.2] at hi; cases hi⟩
  | n + 1, .nd x l, h => ⟨h.1, by have := h.2.1; omega, fun i hi => lv_ok74 (h.2.2 i hi)⟩
theorem szs_le74 {B : Int} : ∀ {l : List It}, (∀ i ∈ l, i.sz 1 ≤ B) → It.szs 1 l ≤ (l.length : Int) * B
  | [], _ => by simp [It.szs]
  | i :: l, h => by
    have h1 := h i List.mem_cons_self
    have h2 := szs_le74 fun j hj => h j (List.mem_cons_of_mem _ hj)
    rw [It.szs, List.length_cons, Int.natCast_succ, Int.add_mul, Int.one_mul]
    omega
theorem lv_sz74 {i : It} : (i.lv 0 → i.sz 1 ≤ 1) ∧ (i.lv 1 → i.sz 1 ≤ 4) ∧ (i.lv 2 → i.sz 1 ≤ 13) := by
  have h0 : ∀ i : It, i.lv 0 → i.sz 1 ≤ 1 := fun i h => by
    cases i with
    | hole => rw [It.sz]; omega
    | nd x l => obtain ⟨_, rfl⟩ := h; simp [It.sz, It.szs]
  have h1 : ∀ i : It, i.lv 1 → i.sz 1 ≤ 4 := fun i h => by
    cases i with
    | hole => rw [It.sz]; omega
    | nd x l =>
      have a := szs_le74 (B := 1) fun j hj => h0 j (h.2.2 j hj)
      have b := h.2.1
      rw [It.sz]; omega
  refine ⟨h0 i, h1 i, fun h => ?_⟩
  cases i with
  | hole => rw [It.sz]; omega
  | nd x l =>
    have a := szs_le74 (B := 4) fun j hj => h1 j (h.2.2 j hj)
    have b := h.2.1
    rw [It.sz]; omega
theorem lvs_sz74 {l : List It} (hl : l.length ≤ 3) (h : ∀ i ∈ l, i.lv 2) : It.szs 1 l ≤ 39 := by
  have := szs_le74 (B := 13) fun j hj => lv_sz74.2.2 (h j hj)
  omega
theorem dqs_le74 {B : Int} (hB : 0 ≤ B) : ∀ {l : List It}, (∀ i ∈ l, i.dq 1 ≤ B) → It.dqs 1 l ≤ B
  | [], _ => hB
  | i :: l, h => by
    have h1 := h i List.mem_cons_self
    have h2 := dqs_le74 hB fun j hj => h j (List.mem_cons_of_mem _ hj)
    rw [It.dqs]
    omega
theorem lv_dq74 : ∀ {n : Nat} {i : It}, i.lv n → i.dq 1 ≤ (n : Int) + 1
  | n, .hole, _ => by rw [It.dq]; omega
  | 0, .nd x l, h => by rw [It.dq, h.2, It.dqs]; omega
  | n + 1, .nd x l, h => by
    have := dqs_le74 (B := (n : Int) + 1) (by omega) fun j hj => lv_dq74 (h.2.2 j hj)
    rw [It.dq]
    omega
/-- a rule that is added: as large and as deep as the second's rule -/
theorem ad_ok74 {f s : TRl} {p : Str × List It} (hs : ∀ p ∈ s, p.2.length ≤ 3 ∧ ∀ i ∈ p.2, i.lv 2) (hp : p ∈ ad74 f s) : It.czs s p.2 ≤ 40 ∧ It.cds s p.2 ≤ 8 := by
  obtain ⟨q, hq, rfl⟩ := List.mem_map.mp hp
  have hq := (List.mem_filter.mp hq).1
  obtain ⟨r, hr⟩ : ∃ r, look s q.1 = some r := by
    have : ∀ s : TRl, q ∈ s → ∃ r, look s q.1 = some r := fun s => by
      induction s with
      | nil => intro h; cases h
      | cons y s ih =>
        intro h
        rw [look]
        split
        · exact ⟨_, rfl⟩
        · rename_i z
          rcases List.mem_cons.mp h with h | h
          · exact absurd (by rw [h]) z
          · exact ih h
    exact this s hq
  obtain ⟨b1, b2⟩ := hs _ (look_mem hr)
  simp only at b1 b2
  have h1 := lvs_sz74 b1 b2
  have h2 := dqs_le74 (B := 3) (by decide) fun j hj => lv_dq74 (b2 j hj)
  have e1 : It.czs s [.nd q.1 [.hole]] = It.szs 1 r := by
    simp [It.czs, It.cz1, hr]
  have e2 : It.cds s [.nd q.1 [.hole]] = It.dqs 1 r := by
    have := dqs_pos74 (s := 1) (by decide) r
    simp only [It.cds, It.cd1, hr]
    rw [show max (1 : Int) 0 = 1 by decide]
    omega
  simp only [e1, e2]
  omega
end
section
open PySem L2

theorem lvh74 (n : Nat) : It.lv n .hole := by cases n <;> trivial
def Tr74 (ns : List Str) (rl : TRl) : Prop := ∀ p ∈ rl, p.1 ∈ ns ∧ NamOk p.1 ∧ p.2.length ≤ 3 ∧ ∀ i ∈ p.2, i.lv 2
theorem cc_items74 {h0 : MH} {ns : List Str} {ip i : Nat} (hns : ∀ x ∈ ns, W4 20 x) (h9 : ns.length = 9) (gp : getL h0 ip = some (ns.map .str)) : ∀ (t n : Nat) (L : LL) (l : List D) (h : MH) (dp : Nat), dp < t → Own h0 h L → L[n]? = some (i, l) → Tp l →
    Sat (m_items_b2406 t [.ref i, .int (dp : Int), .ref ip] h) (fun d h' => ∃ (its : List It) (l' : List D), d = .tup (its.map It.toD) ∧ Tp l' ∧ Own h0 h' (L.set n (i, l')) ∧ its.length ≤ 3 ∧ ∀ it ∈ its, it.lv dp) noX
  | 0, n, L, l, h, dp, h1, _, _, _ => by omega
  | t + 1, n, L, l, h, dp, h1, ow, e, tl => by
    have hn := (List.getElem?_eq_some_iff.mp e).1
    unfold m_items_b2406
    walk_at "fn"
    refine o_new ow (by simp) fun iF h2 o2 => ?_
    walk_at "go"
    refine (c_next o2 (n + 1) (by rw [List.getElem?_cons_succ]; exact e) tl (by decide)).mono ?_
    rintro d h3 ⟨v, l3, rfl, v0, v1, tl3, o3⟩
    rw [List.set_cons_succ] at o3
    walk_at "go"
    refine w_loop0 (fun k ρ h' => ∃ (o4 o5 : Option D) (its : List It) (l' : List D), ρ = [some (.ref i), some (.int (dp : Int)), some (.ref ip), some (.ref iF), o4, o5] ∧ Tp l' ∧ Own h0 h' ((iF, its.map It.toD) :: L.set n (i, l')) ∧ its.length = k ∧ ∀ it ∈ its, it.lv dp) ⟨none, none, [], l3, rfl, tl3, o3, rfl, fun it hit => by simp at hit⟩ (fun _ _ _ _ => rfl) ?_ ?_
    · rintro k d ρ h4 hd ⟨o4, o5, its, l4, rfl, tl4, ow4, hk, hits⟩
      obtain ⟨hkv, rfl⟩ := rangeD_get hd
      refine ⟨_, rfl, ?_⟩
      dsimp only [List.set]
      have e4 : ((iF, its.map It.toD) :: L.set n (i, l4))[n + 1]? = some (i, l4) := by rw [List.getElem?_cons_succ, List.getElem?_set_self hn]
      have gp4 := ow4.getL gp
      walk_at "go"
      refine (c_next ow4 (n + 1) e4 tl4 (by decide)).mono ?_
      rintro d h5 ⟨v5, l5, rfl, v50, v51, tl5, o5'⟩
      rw [List.set_cons_succ, List.set_set] at o5'
      have e5 : ((iF, its.map It.toD) :: L.set n (i, l5))[n + 1]? = some (i, l5) := by rw [List.getElem?_cons_succ, List.getElem?_set_self hn]
      walk_at "go"
      refine br_d (fun q => ?_) (fun q => ?_)
      · walk_at "go"
        refine o_app o5' 0 rfl (by simp; omega) fun h6 o6 => ?_
        have e6 : D.str (Str.ofString "*") = It.hole.toD := rfl
        rw [List.set_cons_zero, e6, map_app1] at o6
        exact ⟨_, _, _, l5, rfl, tl5, o6, by simp [hk], mem_app hits (lvh74 _)⟩
      · walk_at "go"
        refine br_d (fun q2 => ?_) (fun q2 => ?_)
        · have hd0 : dp = 0 := by omega
          subst hd0
          walk_at "go"
          refine (c_next o5' (n + 1) e5 tl5 (by decide)).mono ?_
          rintro d h6 ⟨v6, l6, rfl, v60, v61, tl6, o6⟩
          rw [List.set_cons_succ, List.set_set] at o6
          obtain ⟨x, hx, ax⟩ := pool_at h9 v60 v61
          have gp6 := o6.getL gp
          walk_at "go"
          refine o_app o6 0 rfl (by simp; omega) fun h7 o7 => ?_
          have e7 : D.tup [.str x, .tup []] = (It.nd x []).toD := by rw [it_nd]; rfl
          rw [List.set_cons_zero, e7, map_app1] at o7
          exact ⟨_, _, _, l6, rfl, tl6, o7, by simp [hk], mem_app hits ⟨(hns x hx).nam, rfl⟩⟩
        · obtain ⟨dq, rfl⟩ : ∃ dq, dp = dq + 1 := ⟨dp - 1, by omega⟩
          walk_at "go"
          refine (c_next o5' (n + 1) e5 tl5 (by decide)).mono ?_
          rintro d h6 ⟨v6, l6, rfl, v60, v61, tl6, o6⟩
          rw [List.set_cons_succ, List.set_set] at o6
          obtain ⟨x, hx, ax⟩ := pool_at h9 v60 v61
          have gp6 := o6.getL gp
          have e6 : ((iF, its.map It.toD) :: L.set n (i, l6))[n + 1]? = some (i, l6) := by rw [List.getElem?_cons_succ, List.getElem?_set_self hn]
          walk_at "go"
          have edq : ((dq + 1 : Nat) : Int) - 1 = (dq : Int) := by omega
          rw [edq]
          refine (cc_items74 hns h9 gp t (n + 1) _ l6 h6 dq (by omega) o6 e6 tl6).mono ?_
          rintro d h7 ⟨sub, l7, rfl, tl7, o7, hs3, hsub⟩
          rw [List.set_cons_succ, List.set_set] at o7
          walk_at "go"
          refine o_app o7 0 rfl (by simp; omega) fun h8 o8 => ?_
          have e8 : D.tup [.str x, .tup (sub.map It.toD)] = (It.nd x sub).toD := (it_nd x sub).symm
          rw [List.set_cons_zero, e8, map_app1] at o8
          exact ⟨_, _, _, l7, rfl, tl7, o8, by simp [hk], mem_app hits ⟨(hns x hx).nam, by omega, hsub⟩⟩
    · rintro ρ h4 ⟨o4, o5, its, l4, rfl, tl4, ow4, hk, hits⟩
      rw [rangeD_length] at hk
      walk_at "go"
      exact ⟨its, l4, rfl, tl4, ow4.tail, by omega, hits⟩
theorem cc_turner74 {sA mo dp0 : Int} (h0A : 0 ≤ sA) (hmo : 0 ≤ mo ∧ mo ≤ 19) (hdp : 1 ≤ dp0 ∧ dp0 ≤ 3) {sc : List Int} (hb : ∀ z ∈ sc, Cell z) {h0 : MH} (g0 : getL h0 0 = some (sc.map D.int)) {ns : List Str} {ip : Nat} (hns : ∀ x ∈ ns, W4 20 x) (h9 : ns.length = 9) {h : MH} (gp : getL h ip = some (ns.map .str)) (hh : h0 <+: h) :
    Sat (m_turner_aa784 [.ref 0, .int sA, .int mo, .ref ip, .int dp0] h) (fun d h' => h <+: h' ∧ ∃ rl : TRl, d = .tup (rl.map rD) ∧ Tr74 ns rl ∧ (rl.length : Int) ≤ mo) noX := by
  have gs := pre_getL hh g0
  walk_at "fn"
  refine (c_cell_at hb gs h0A).mono ?_
  rintro d h ⟨rfl, c0, rfl, hc0⟩
  walk_at "go"
  have hm := mod_in c0 (n := mo + 1) (by omega)
  refine o_new (Own.nil h) (by simp) fun iR h1 o1 => ?_
  walk_at "go"
  refine w_loop0 (fun k ρ h' => ∃ (o7 o8 o9 : Option D) (rl : TRl), ρ = [some (.ref 0), some (.int sA), some (.int mo), some (.ref ip), some (.int dp0), some (.int c0), some (.ref iR), o7, o8, o9] ∧ Own h h' [(iR, rl.map rD)] ∧ rl.length = k ∧ Tr74 ns rl) ⟨none, none, none, [], rfl, o1, rfl, fun p hp => by simp at hp⟩ (fun _ _ _ _ => rfl) ?_ ?_
  · rintro k d ρ h2 hd ⟨o7, o8, o9, rl, rfl, ow, hk, hrl⟩
    obtain ⟨hkn, rfl⟩ := rangeD_get hd
    refine ⟨_, rfl, ?_⟩
    dsimp only [List.set]
    walk_at "go"
    refine (c_cell_at hb (ow.getL gs) (by omega)).mono ?_
    rintro d h3 ⟨rfl, c3, rfl, hc3⟩
    walk_at "go"
    refine (c_tape2 (n := 120) hc3 (by decide)).mono ?_
    rintro d h4 ⟨it, tl, rfl, o4, htl⟩
    have o4' := ow.trans o4
    walk_at "go"
    refine (c_next o4' 0 rfl htl (by omega)).mono ?_
    rintro d h5 ⟨v, tl5, rfl, v0, v1, htl5, o5⟩
    have hix := mod_in (c0 / 16 + 2 * (0 + (k : Int))) (n := 9) (by decide)
    obtain ⟨x, hx, ax⟩ := pool_at h9 hix.1 hix.2
    have gp5 := o5.getL gp
    obtain ⟨dp, rfl⟩ : ∃ dp : Nat, v = (dp : Int) := ⟨v.toNat, by omega⟩
    walk_at "go"
    refine (cc_items74 hns h9 gp 100 0 _ tl5 h5 dp (by omega) o5 rfl htl5).mono ?_
    rintro d h6 ⟨its, tl6, rfl, htl6, o6, hi3, hits⟩
    walk_at "go"
    refine o_app o6 1 rfl (by simp; omega) fun h7 o7 => ?_
    have e7 : D.tup [.str x, .tup (its.map It.toD)] = rD (x, its) := rfl
    dsimp only [List.set, List.cons_append, List.nil_append] at o7
    rw [e7, map_app1] at o7
    exact ⟨_, _, _, _, rfl, o7.tail, by simp [hk], mem_app hrl ⟨hx, (hns x hx).nam, by simp; omega, fun it hit => lv_mono74 (hits it hit) (by omega)⟩⟩
  · rintro ρ h2 ⟨o7, o8, o9, rl, rfl, ow, hk, hrl⟩
    rw [rangeD_length] at hk
    walk_at "go"
    exact ⟨ow.pre, rl, rfl, hrl, by omega⟩
theorem cutD_drop74 (l : List D) (k : Nat) : cutD l (some (k : Int)) none = l.drop k := by
  unfold cutD
  rw [HT.sIx_none, HT.sIx_nat]
  rcases Nat.lt_or_ge k l.length with z | z
  · rw [Nat.min_eq_left (Nat.le_of_lt z), List.take_of_length_le (by simp)]
  · rw [Nat.min_eq_right z, List.drop_of_length_le z, List.drop_length, List.take_nil]
theorem tr_rok74 {ns : List Str} {rl : TRl} (h : Tr74 ns rl) (hl : rl.length ≤ 20) : ROk rl 9 := ⟨hl, fun p hp => (h p hp).2.1, fun p hp => ⟨by have := (h p hp).2.2.1; omega, fun i hi => it_mono (lv_ok74 ((h p hp).2.2.2 i hi)) (by decide)⟩⟩
theorem k_firsts74 {sc : List Int} (hb : ∀ z ∈ sc, Cell z) {h : MH} (g0 : getL h 0 = some (sc.map D.int)) {ns : List Str} {ip : Nat} (hns : ∀ x ∈ ns, W4 20 x) (h9 : ns.length = 9) (gp : getL h ip = some (ns.map .str)) :
    Sat (m_firsts_3d5cc [.ref 0, .ref ip] h) (fun d h' => h <+: h' ∧ ∃ rl : TRl, d = .tup (rl.map rD) ∧ ROk rl 8 ∧ rl.length ≤ 8) noX := by
  walk_at "fn"
  refine (cc_turner74 (by decide) (by decide) (by decide) hb g0 hns h9 gp List.prefix_rfl).mono ?_
  rintro d h1 ⟨p1, rl, rfl, tr, hl⟩
  have hr : ROk rl 8 := ⟨by omega, fun p hp => (tr p hp).2.1, fun p hp => ⟨by have := (tr p hp).2.2.1; omega, fun i hi => it_mono (lv_ok74 ((tr p hp).2.2.2 i hi)) (by decide)⟩⟩
  have hl8 : rl.length ≤ 8 := by omega
  have g01 := pre_getL p1 g0
  walk_at "go"
  refine (c_cell_at hb g01 (by decide)).mono ?_
  rintro d h1' ⟨rfl, c, rfl, hc⟩
  walk_at "go"
  refine (c_tape2 (n := 20) hc (by decide)).mono ?_
  rintro d h2 ⟨it, tl, rfl, o2, htl⟩
  have gp2 := o2.getL (pre_getL p1 gp)
  walk_at "go"
  refine (c_next o2 0 rfl htl (by omega)).mono ?_
  rintro d h3 ⟨v, tl3, rfl, v0, v1, htl3, o3⟩
  rw [List.set_cons_zero] at o3
  walk_at "go"
  refine br_d (fun q => ?_) (fun q => ?_)
  rotate_left
  · walk_at "go"
    exact ⟨p1.trans o3.pre, rl, rfl, hr, hl8⟩
  walk_at "go"
  refine br_d (fun q2 => ?_) (fun q2 => ?_)
  rotate_left
  · walk_at "go"
    exact ⟨p1.trans o3.pre, rl, rfl, hr, hl8⟩
  walk_at "go"
  refine (c_next o3 0 rfl htl3 (by omega)).mono ?_
  rintro d h4 ⟨u, tl4, rfl, u0, u1, htl4, o4⟩
  rw [List.set_cons_zero] at o4
  walk_at "go"
  refine w_loop0 (fun k ρ h' => ∃ (o5 : Option D) (its : List It) (l' : List D), ρ = [some (.ref 0), some (.ref ip), some (.tup (rl.map rD)), some (.ref it), some (.tup (its.map It.toD)), o5] ∧ Tp l' ∧ Own h1' h' [(it, l')] ∧ its.length ≤ 2 ∧ ∀ i ∈ its, i.ok k) ⟨none, [.hole], tl4, rfl, htl4, o4, by simp, fun i hi => by rw [List.mem_singleton.mp hi]; trivial⟩ (fun _ _ _ _ => rfl) ?_ ?_
  · rintro k y ρ h5 hy ⟨o5, its, l5, rfl, tl5, ow, hil, hio⟩
    obtain ⟨hk, rfl⟩ := rangeD_get hy
    refine ⟨_, rfl, ?_⟩
    dsimp only [List.set]
    walk_at "go"
    refine (c_next ow 0 rfl tl5 (by decide)).mono ?_
    rintro d h6 ⟨v6, l6, rfl, v60, v61, tl6, o6⟩
    rw [List.set_cons_zero] at o6
    obtain ⟨x, hx, ax⟩ := pool_at h9 v60 v61
    have gp6 := pre_getL o6.pre (pre_getL p1 gp)
    walk_at "go"
    refine (c_next o6 0 rfl tl6 (by decide)).mono ?_
    rintro d h7 ⟨v7, l7, rfl, v70, v71, tl7, o7⟩
    rw [List.set_cons_zero] at o7
    have e8 : D.tup [.str x, .tup (its.map It.toD)] = (It.nd x its).toD := (it_nd x its).symm
    rw [e8]
    have hnd : (It.nd x its).ok (k + 1) := ⟨(hns x hx).nam, by omega, hio⟩
    walk_at "go"
    refine br_d (fun q => ?_) (fun q => ?_)
    · walk_at "go"
      have e9 : [(It.nd x its).toD] ++ [D.str (Str.ofString "*")] = [It.nd x its, It.hole].map It.toD := rfl
      refine w_addT (by simp) ?_
      rw [e9]
      refine ⟨_, [It.nd x its, It.hole], l7, rfl, tl7, o7, by simp, fun i hi => ?_⟩
      simp only [List.mem_cons, List.not_mem_nil, or_false] at hi
      rcases hi with rfl | rfl
      · exact hnd
      · trivial
    · walk_at "go"
      exact ⟨_, [It.nd x its], l7, rfl, tl7, o7, by simp, fun i hi => by rw [List.mem_singleton.mp hi]; exact hnd⟩
  · rintro ρ h5 ⟨o5, its, l5, rfl, tl5, ow, hil, hio⟩
    rw [rangeD_length] at hio
    have hpos : 0 < rl.length := by
      have : ((rl.map rD).length : Int) = rl.length := by simp
      omega
    obtain ⟨p0, rl', rfl⟩ : ∃ p0 rl', rl = p0 :: rl' := by
      cases rl with
      | nil => simp at hpos
      | cons p0 rl' => exact ⟨p0, rl', rfl⟩
    have a0 : atI ((p0 :: rl').map rD) 0 = some (rD p0) := atI_at (k := 0) rfl
    have ecut : cutD ((p0 :: rl').map rD) (some 1) none = rl'.map rD := by
      have := cutD_drop74 ((p0 :: rl').map rD) 1
      simpa using this
    generalize hX : (p0 :: rl').map rD = X at *
    have hXl : X.length ≤ 8 := by rw [← hX]; simpa using hl8
    walk_at "go"
    unfold rD
    walk_at "go"
    rw [ecut]
    refine w_addT (by rw [← hX] at hXl; simp at hXl ⊢; omega) ?_
    walk_at "go"
    refine ⟨p1.trans ow.pre, (p0.1, its) :: rl', rfl, ⟨by simp at hl8 ⊢; omega, fun p hp => ?_, fun p hp => ?_⟩, by simpa using hl8⟩
    · rcases List.mem_cons.mp hp with rfl | hp
      · exact hr.nm p0 List.mem_cons_self
      · exact hr.nm p (List.mem_cons_of_mem _ hp)
    · rcases List.mem_cons.mp hp with rfl | hp
      · exact ⟨by simp only; omega, fun i hi => it_mono (hio i hi) (by omega)⟩
      · exact hr.its p (List.mem_cons_of_mem _ hp)
end
section
open PySem L2

theorem mx74 {a b : Int} : (if a < b then b else a) = max a b := by omega
theorem isN_non74 (h : MH) : dIsN .non .non h = .ok (.bl true) h := by rw [dIsN_ev]; rfl
theorem cc_fdepth74 {s : Int} (hs : 0 ≤ s) : ∀ (t w : Nat) (its : List It) (h : MH), w < t → w ≤ 9 → (∀ i ∈ its, i.ok w) → Sat (m_filled_depth_8b70f t [.tup (its.map It.toD), .int s] h) (fun d h' => h' = h ∧ d = .int (It.dqs s its)) noX
  | 0, w, its, h, h1, _, _ => by omega
  | t + 1, w, its, h, h1, hw, hi => by
    unfold m_filled_depth_8b70f
    walk_at "fn"
    refine w_loop0 (fun k ρ h' => h' = h ∧ ∃ o3, ρ = [some (.tup (its.map It.toD)), some (.int s), some (.int (It.dqs s (its.take k))), o3]) ⟨rfl, none, rfl⟩ (fun _ _ _ _ => rfl) ?_ ?_
    · rintro k d ρ h' hd ⟨rfl, o3, rfl⟩
      rw [List.getElem?_map, Option.map_eq_some_iff] at hd
      obtain ⟨i, ei, rfl⟩ := hd
      have him := hi i (List.mem_of_getElem? ei)
      refine ⟨_, rfl, ?_⟩
      dsimp only [List.set]
      walk_at "go"
      refine w_isHole him hw ?_
      rw [take_s7 ei, dqs_snoc74 hs]
      cases i with
      | hole =>
        walk_at "go"
        exact ⟨rfl, _, by simp only [mx74, It.dq]; rfl⟩
      | nd x l =>
        cases w with
        | zero => exact him.elim
        | succ w =>
          rw [it_nd]
          walk_at "go"
          refine (cc_fdepth74 hs t w l h' (by omega) (by omega) him.2.2).mono ?_
          rintro d h2 ⟨rfl, rfl⟩
          walk_at "go"
          exact ⟨rfl, some (.tup [.str x, .tup (l.map It.toD)]), by simp only [mx74, It.dq]⟩
    · rintro ρ h' ⟨rfl, o3, rfl⟩
      rw [List.length_map, List.take_length]
      walk_at "go"
      exact ⟨rfl, rfl⟩
theorem cc_deep74 {s : Int} (hs : 0 ≤ s) : ∀ (t w : Nat) (its : List It) (h : MH), w < t → w ≤ 9 → (∀ i ∈ its, i.ok w) → Sat (m_deep_c9d37 t [.tup (its.map It.toD), .int s] h) (fun d h' => h' = h ∧ d = .int (It.dqs s its)) noX
  | 0, w, its, h, h1, _, _ => by omega
  | t + 1, w, its, h, h1, hw, hi => by
    unfold m_deep_c9d37
    walk_at "fn"
    refine w_loop0 (fun k ρ h' => h' = h ∧ ∃ o3, ρ = [some (.tup (its.map It.toD)), some (.int s), some (.int (It.dqs s (its.take k))), o3]) ⟨rfl, none, rfl⟩ (fun _ _ _ _ => rfl) ?_ ?_
    · rintro k d ρ h' hd ⟨rfl, o3, rfl⟩
      rw [List.getElem?_map, Option.map_eq_some_iff] at hd
      obtain ⟨i, ei, rfl⟩ := hd
      have him := hi i (List.mem_of_getElem? ei)
      refine ⟨_, rfl, ?_⟩
      dsimp only [List.set]
      walk_at "go"
      refine w_isHole him hw ?_
      rw [take_s7 ei, dqs_snoc74 hs]
      cases i with
      | hole =>
        walk_at "go"
        exact ⟨rfl, _, by simp only [mx74, It.dq]; rfl⟩
      | nd x l =>
        cases w with
        | zero => exact him.elim
        | succ w =>
          rw [it_nd]
          walk_at "go"
          refine (cc_deep74 hs t w l h' (by omega) (by omega) him.2.2).mono ?_
          rintro d h2 ⟨rfl, rfl⟩
          walk_at "go"
          exact ⟨rfl, some (.tup [.str x, .tup (l.map It.toD)]), by simp only [mx74, It.dq]⟩
    · rintro ρ h' ⟨rfl, o3, rfl⟩
      rw [List.length_map, List.take_length]
      walk_at "go"
      exact ⟨rfl, rfl⟩
section
variable {s : TRl} (hs : ROk s 9)
include hs
theorem its9_74 {x : Str} {r : List It} (h : look s x = some r) : ∀ i ∈ r, i.ok 9 := (hs.its _ (look_mem h)).2
theorem cc_csize74 : ∀ (t w : Nat) (its : List It) (h : MH), w < t → w ≤ 9 → (∀ i ∈ its, i.ok w) → Sat (m_chained_size_ac0f3 t [.tup (its.map It.toD), .tup (s.map rD)] h) (fun d h' => h' = h ∧ d = .int (It.czs s its)) noX
  | 0, w, its, h, h1, _, _ => by omega
  | t + 1, w, its, h, h1, hw, hi => by
    unfold m_chained_size_ac0f3
    walk_at "fn"
    refine w_loop0 (fun k ρ h' => h' = h ∧ ∃ o3 o4 o5, ρ = [some (.tup (its.map It.toD)), some (.tup (s.map rD)), some (.int (It.czs s (its.take k))), o3, o4, o5]) ⟨rfl, none, none, none, rfl⟩ (fun _ _ _ _ => rfl) ?_ ?_
    · rintro k d ρ h' hd ⟨rfl, o3, o4, o5, rfl⟩
      rw [List.getElem?_map, Option.map_eq_some_iff] at hd
      obtain ⟨i, ei, rfl⟩ := hd
      have him := hi i (List.mem_of_getElem? ei)
      refine ⟨_, rfl, ?_⟩
      dsimp only [List.set]
      walk_at "go"
      refine w_isHole him hw ?_
      rw [take_s7 ei, czs_snoc74]
      cases i with
      | hole =>
        walk_at "go"
        exact ⟨rfl, _, _, _, rfl⟩
      | nd x l =>
        cases w with
        | zero => exact him.elim
        | succ w =>
          rw [it_nd]
          walk_at "go"
          refine (cc_csize74 t w l h' (by omega) (by omega) him.2.2).mono ?_
          rintro d h2 ⟨rfl, rfl⟩
          walk_at "go"
          refine (cc_itemsfor hs.len).mono ?_
          rintro d h3 ⟨rfl, rfl⟩
          rw [It.cz1]
          cases e : look s x with
          | none =>
            walk_at "go"
            refine w_eq (isN_non74 _) ?_
            walk_at "go"
            exact ⟨rfl, _, _, _, by simp only [Int.add_assoc]; rfl⟩
          | some r =>
            walk_at "go"
            refine w_eq (isN_tup _ _) ?_
            walk_at "go"
            refine (cc_fsize 100 9 r _ (by decide) (by decide) (its9_74 hs e)).mono ?_
            rintro d h4 ⟨rfl, rfl⟩
            walk_at "go"
            exact ⟨rfl, _, _, _, rfl⟩
    · rintro ρ h' ⟨rfl, o3, o4, o5, rfl⟩
      rw [List.length_map, List.take_length]
      walk_at "go"
      exact ⟨rfl, rfl⟩
theorem cc_cdepth74 : ∀ (t w : Nat) (its : List It) (h : MH), w < t → w ≤ 9 → (∀ i ∈ its, i.ok w) → Sat (m_chained_depth_b220a t [.tup (its.map It.toD), .tup (s.map rD)] h) (fun d h' => h' = h ∧ d = .int (It.cds s its)) noX
  | 0, w, its, h, h1, _, _ => by omega
  | t + 1, w, its, h, h1, hw, hi => by
    unfold m_chained_depth_b220a
    walk_at "fn"
    refine w_loop0 (fun k ρ h' => h' = h ∧ ∃ o3 o4 o5, ρ = [some (.tup (its.map It.toD)), some (.tup (s.map rD)), some (.int (It.cds s (its.take k))), o3, o4, o5]) ⟨rfl, none, none, none, rfl⟩ (fun _ _ _ _ => rfl) ?_ ?_
    · rintro k d ρ h' hd ⟨rfl, o3, o4, o5, rfl⟩
      rw [List.getElem?_map, Option.map_eq_some_iff] at hd
      obtain ⟨i, ei, rfl⟩ := hd
      have him := hi i (List.mem_of_getElem? ei)
      refine ⟨_, rfl, ?_⟩
      dsimp only [List.set]
      walk_at "go"
      refine w_isHole him hw ?_
      rw [take_s7 ei, cds_snoc74]
      cases i with
      | hole =>
        walk_at "go"
        exact ⟨rfl, _, _, _, by simp only [mx74, It.cd1]; rfl⟩
      | nd x l =>
        cases w with
        | zero => exact him.elim
        | succ w =>
          rw [it_nd]
          walk_at "go"
          refine (cc_cdepth74 t w l h' (by omega) (by omega) him.2.2).mono ?_
          rintro d h2 ⟨rfl, rfl⟩
          walk_at "go"
          refine (cc_itemsfor hs.len).mono ?_
          rintro d h3 ⟨rfl, rfl⟩
          rw [It.cd1]
          cases e : look s x with
          | none =>
            walk_at "go"
            refine w_eq (isN_non74 _) ?_
            walk_at "go"
            exact ⟨rfl, _, _, _, by simp only [mx74]; rfl⟩
          | some r =>
            walk_at "go"
            refine w_eq (isN_tup _ _) ?_
            walk_at "go"
            refine (cc_fdepth74 (cds_pos74 s l) 100 9 r _ (by decide) (by decide) (its9_74 hs e)).mono ?_
            rintro d h4 ⟨rfl, rfl⟩
            walk_at "go"
            exact ⟨rfl, _, _, _, by simp only [mx74]; rfl⟩
    · rintro ρ h' ⟨rfl, o3, o4, o5, rfl⟩
      rw [List.length_map, List.take_length]
      walk_at "go"
      exact ⟨rfl, rfl⟩
end
end
section
open PySem L2

def Sv74 (c : Nat) (h1 h2 : MH) : Prop := (∃ l, h1[c]? = some (.lst l)) ∧ ∀ (j : Nat) (o : MO), j ≠ c → h1[j]? = some o → h2[j]? = some o
theorem o_compM74 {h0 h : MH} {L : LL} {Q : D → MH → Prop} {E : XE} {gd : MH → Bool} {tg : MG} {te : ME} {ρ : Slots} (P : Nat → D → MH → Prop) {items : List D} (o : Own h0 h L) (hl : items.length ≤ 1000000)
    (hg : ∀ h', h <+: h' → gd h' = true) (hm : ∀ i y h1 h2, Sv74 h.length h1 h2 → P i y h1 → P i y h2)
    (hs : ∀ i d h', items[i]? = some d → h <+: h' → h.length < h'.length → ∃ ρ1, tg d ρ = some ρ1 ∧ Sat (te ρ1 h') (fun y h2 => h' <+: h2 ∧ P i y h2) noX)
    (hn : ∀ ys h', ys.length = items.length → (∀ (k : Nat) y, ys[k]? = some y → P k y h') → Own h0 h' ((h.length, ys) :: L) → Q (.ref h.length) h') : Sat (lcGo gd tg mYes te h.length ρ items (h ++ [.lst []])) Q E := by
  refine w_comp (fun k acc h' => acc.length = k ∧ Own h h' [(h.length, acc)] ∧ ∀ (i : Nat) y, acc[i]? = some y → P i y h') (k := 0) ⟨rfl, (Own.nil h).alloc [], fun i y e => by simp at e⟩ (by simp) (by simpa using hl) (fun i acc h' hi => hg _ hi.2.1.pre) ?_ ?_
  · rintro i d acc h' hd ⟨ha, ow, hp⟩ hc
    rw [Nat.zero_add] at ha ⊢
    obtain ⟨ρ1, e1, s⟩ := hs i d h' hd ow.pre (List.getElem?_eq_some_iff.mp hc).1
    refine ⟨ρ1, e1, true, _, rfl, (fun z => Bool.noConfusion z), fun _ => s.mono ?_⟩
    rintro y h2 ⟨p2, hy⟩
    have o2 := ow.ext p2
    have hc2 := o2.at 0 rfl
    have sv0 : Sv74 h.length h' h2 := ⟨⟨acc, hc⟩, fun j o _ e => pre_get p2 e⟩
    have sv : Sv74 h.length h2 (h2.set h.length (.lst (acc ++ [y]))) := ⟨⟨acc, hc2⟩, fun j o hj e => by rw [List.getElem?_set_ne (Ne.symm hj)]; exact e⟩
    refine ⟨hc2, by simp [ha], o2.setAt 0 rfl _, fun j z hz => ?_⟩
    rcases Nat.lt_or_ge j acc.length with q | q
    · rw [List.getElem?_append_left q] at hz
      exact hm _ _ _ _ sv (hm _ _ _ _ sv0 (hp j z hz))
    · rw [List.getElem?_append_right q] at hz
      have : j - acc.length = 0 := by
        have := (List.getElem?_eq_some_iff.mp hz).1
        simp at this; omega
      rw [this] at hz
      simp at hz
      subst hz
      have : j = i := by omega
      subst this
      exact hm _ _ _ _ sv hy
  · rintro acc h' ⟨ha, ow, hp⟩ hc
    rw [Nat.zero_add] at ha
    exact hn acc h' ha hp (o.trans ow)

theorem fis_snoc74 (A : List It) (i : It) : ∀ l : List It, It.fis A (l ++ [i]) = It.fis A l ++ i.fi A
  | [] => by simp [It.fis]
  | j :: l => by rw [List.cons_append, It.fis, fis_snoc74 A i l, It.fis, List.append_assoc]
theorem fis_len74 {A its : List It} (k : Nat) : ((It.fis A (its.take k)).length : Int) ≤ It.szs (It.szs 1 A) its := by
  have h0 : 0 ≤ It.szs 1 A := szs_pos (by decide) A
  have h1 := szs1_len74 (It.fis A (its.take k))
  rw [fis_sz74] at h1
  have h2 := szs_take h0 its k
  omega
theorem cc_filledI74 {A : List It} : ∀ (t w : Nat) (its : List It) (h : MH), w < t → w ≤ 9 → (∀ i ∈ its, i.ok w) → A.length ≤ 5000 → It.szs (It.szs 1 A) its ≤ 5000 → Sat (m_filled_1058b t [.tup (its.map It.toD), .tup (A.map It.toD)] h) (fun d h' => h <+: h' ∧ d = .tup ((It.fis A its).map It.toD)) noX
  | 0, w, its, h, h1, _, _, _, _ => by omega
  | t + 1, w, its, h, h1, hw, hi, hA, hsz => by
    have h0 : 0 ≤ It.szs 1 A := szs_pos (by decide) A
    unfold m_filled_1058b
    walk_at "fn"
    refine o_new (Own.nil h) (by simp) fun iF h2 o2 => ?_
    walk_at "go"
    refine w_loop0 (fun k ρ h' => (∃ o3, ρ = [some (.tup (its.map It.toD)), some (.tup (A.map It.toD)), some (.ref iF), o3]) ∧ Own h h' [(iF, (It.fis A (its.take k)).map It.toD)]) ⟨⟨none, rfl⟩, o2⟩ (fun _ _ _ _ => rfl) ?_ ?_
    · rintro k d ρ h' hd ⟨⟨o3, rfl⟩, ow⟩
      rw [List.getElem?_map, Option.map_eq_some_iff] at hd
      obtain ⟨i, ei, rfl⟩ := hd
      have him := hi i (List.mem_of_getElem? ei)
      have hmz := szs_mem h0 (List.mem_of_getElem? ei)
      have hfl := fis_len74 (A := A) (its := its) k
      refine ⟨_, rfl, ?_⟩
      dsimp only [List.set]
      walk_at "go"
      refine w_isHole him hw ?_
      rw [take_s7 ei, fis_snoc74]
      cases i with
      | hole =>
        walk_at "go"
        refine o_listT7 ow fun iX h3 o3' => ?_
        walk_at "go"
        refine o_ext7 o3' 1 rfl (o3'.at 0 rfl) (by simp; omega) fun h4 o4 => ?_
        dsimp only [List.set] at o4
        rw [← List.map_append] at o4
        exact ⟨⟨_, rfl⟩, o4.tail⟩
      | nd x l =>
        cases w with
        | zero => exact him.elim
        | succ w =>
          rw [it_nd]
          rw [It.sz] at hmz
          walk_at "go"
          refine (cc_filledI74 t w l h' (by omega) (by omega) him.2.2 hA (by omega)).mono ?_
          rintro d h3 ⟨p3, rfl⟩
          have o4 := ow.ext p3
          walk_at "go"
          refine o_app o4 0 rfl (by simp; omega) fun h5 o5 => ?_
          have e5 : D.tup [.str x, .tup ((It.fis A l).map It.toD)] = (It.nd x (It.fis A l)).toD := (it_nd _ _).symm
          rw [List.set_cons_zero, e5, map_app1] at o5
          exact ⟨⟨_, rfl⟩, o5⟩
    · rintro ρ h' ⟨⟨o3, rfl⟩, ow⟩
      rw [List.length_map, List.take_length] at ow
      walk_at "go"
      exact ⟨ow.pre, rfl⟩
theorem czs_app74 (s : TRl) : ∀ a b : List It, It.czs s (a ++ b) = It.czs s a + It.czs s b
  | [], b => by simp [It.czs]
  | i :: a, b => by rw [List.cons_append, It.czs, czs_app74 s a b, It.czs]; omega
theorem cz1_pos74 (s : TRl) (i : It) : 0 ≤ i.cz1 s := by rw [← c1_sz74]; exact szs_pos (by decide) _
theorem czs_mem74 (s : TRl) : ∀ {l : List It} {i : It}, i ∈ l → i.cz1 s ≤ It.czs s l
  | j :: l, i, h => by
    rw [It.czs]
    have h1 := cz1_pos74 s j
    have h2 := czs_pos74 s l
    rcases List.mem_cons.mp h with rfl | h
    · omega
    · have := czs_mem74 s h; omega
theorem cs_len74 {s : TRl} {its : List It} (k : Nat) : ((It.cs s (its.take k)).length : Int) ≤ It.czs s its := by
  have h1 := szs1_len74 (It.cs s (its.take k))
  rw [cs_sz74] at h1
  have h2 := czs_app74 s (its.take k) (its.drop k)
  rw [List.take_append_drop] at h2
  have h3 := czs_pos74 s (its.drop k)
  omega
section
variable {s : TRl} (hs : ROk s 9)
include hs
theorem cc_citems74 : ∀ (t w : Nat) (its : List It) (h : MH), w < t → w ≤ 9 → (∀ i ∈ its, i.ok w) → It.czs s its ≤ 1000 → Sat (m_chained_items_6a3ab t [.tup (its.map It.toD), .tup (s.map rD)] h) (fun d h' => h <+: h' ∧ d = .tup ((It.cs s its).map It.toD)) noX
  | 0, w, its, h, h1, _, _, _ => by omega
  | t + 1, w, its, h, h1, hw, hi, hz => by
    unfold m_chained_items_6a3ab
    walk_at "fn"
    refine o_new (Own.nil h) (by simp) fun iF h2 o2 => ?_
    walk_at "go"
    refine w_loop0 (fun k ρ h' => (∃ o3 o4, ρ = [some (.tup (its.map It.toD)), some (.tup (s.map rD)), some (.ref iF), o3, o4]) ∧ Own h h' [(iF, (It.cs s (its.take k)).map It.toD)]) ⟨⟨none, none, rfl⟩, o2⟩ (fun _ _ _ _ => rfl) ?_ ?_
    · rintro k d ρ h' hd ⟨⟨o3, o4, rfl⟩, ow⟩
      rw [List.getElem?_map, Option.map_eq_some_iff] at hd
      obtain ⟨i, ei, rfl⟩ := hd
      have him := hi i (List.mem_of_getElem? ei)
      have hmz := czs_mem74 s (List.mem_of_getElem? ei)
      have hfl := cs_len74 (s := s) (its := its) k
      refine ⟨_, rfl, ?_⟩
      dsimp only [List.set]
      walk_at "go"
      refine w_isHole him hw ?_
      rw [take_s7 ei, cs_snoc74]
      cases i with
      | hole =>
        walk_at "go"
        refine o_app ow 0 rfl (by simp; omega) fun h5 o5 => ?_
        rw [List.set_cons_zero, map_app1] at o5
        exact ⟨⟨_, _, rfl⟩, o5⟩
      | nd x l =>
        cases w with
        | zero => exact him.elim
        | succ w =>
          rw [it_nd]
          rw [It.cz1] at hmz
          rw [It.c1]
          walk_at "go"
          refine (cc_itemsfor hs.len).mono ?_
          rintro d h3 ⟨rfl, rfl⟩
          cases e : look s x with
          | none =>
            rw [e] at hmz
            simp only at hmz
            walk_at "go"
            refine w_eq (isN_non74 _) ?_
            walk_at "go"
            refine (cc_citems74 t w l _ (by omega) (by omega) him.2.2 (by omega)).mono ?_
            rintro d h4 ⟨p4, rfl⟩
            have o4 := ow.ext p4
            walk_at "go"
            refine o_app o4 0 rfl (by simp; omega) fun h5 o5 => ?_
            have e5 : D.tup [.str x, .tup ((It.cs s l).map It.toD)] = (It.nd x (It.cs s l)).toD := (it_nd _ _).symm
            rw [List.set_cons_zero, e5, map_app1] at o5
            exact ⟨⟨_, _, rfl⟩, o5⟩
          | some r =>
            rw [e] at hmz
            simp only at hmz
            walk_at "go"
            refine w_eq (isN_tup _ _) ?_
            walk_at "go"
            refine (cc_hashole 100 9 r _ (by decide) (by decide) (its9_74 hs e)).mono ?_
            rintro d h4 ⟨rfl, rfl⟩
            cases hh : It.hhs r with
            | true =>
              have hS := szs_hole (czs_pos74 s l) r hh
              have hln := cs_len74 (s := s) (its := l) l.length
              rw [List.take_length] at hln
              walk_at "go"
              refine (cc_citems74 t w l _ (by omega) (by omega) him.2.2 (by omega)).mono ?_
              rintro d h5 ⟨p5, rfl⟩
              walk_at "go"
              refine (cc_filledI74 (A := It.cs s l) 100 9 r _ (by decide) (by decide) (its9_74 hs e) (by omega) (by rw [cs_sz74]; omega)).mono ?_
              rintro d h6 ⟨p6, rfl⟩
              have o6 := ow.ext (p5.trans p6)
              have hl6 := fis_len74 (A := It.cs s l) (its := r) r.length
              rw [List.take_length, cs_sz74] at hl6
              walk_at "go"
              refine o_listT7 o6 fun iX h7 o7 => ?_
              walk_at "go"
              refine o_ext7 o7 1 rfl (o7.at 0 rfl) (by simp; omega) fun h8 o8 => ?_
              dsimp only [List.set] at o8
              rw [← List.map_append] at o8
              exact ⟨⟨_, _, rfl⟩, o8.tail⟩
            | false =>
              have er : It.fis (It.cs s l) r = r := fis_no74 _ r hh
              have hrl := (hs.its _ (look_mem e)).1
              simp only at hrl
              walk_at "go"
              refine o_listT7 ow fun iX h7 o7 => ?_
              walk_at "go"
              refine o_ext7 o7 1 rfl (o7.at 0 rfl) (by simp; omega) fun h8 o8 => ?_
              dsimp only [List.set] at o8
              rw [← List.map_append] at o8
              simp only [er]
              exact ⟨⟨_, _, rfl⟩, o8.tail⟩
    · rintro ρ h' ⟨⟨o3, o4, rfl⟩, ow⟩
      rw [List.length_map, List.take_length] at ow
      walk_at "go"
      exact ⟨ow.pre, rfl⟩
end
theorem ad_snoc74 (f : TRl) (p : Str × List It) (s : TRl) : ad74 f (s ++ [p]) = ad74 f s ++ if (look f p.1).isNone then [(p.1, [.nd p.1 [.hole]])] else [] := by
  unfold ad74
  rw [List.filter_append, List.map_append]
  congr 1
  rw [List.filter_cons]
  split <;> simp
def Due74 (f s : TRl) : Prop := 12 < (f ++ ad74 f s).length ∨ ∃ p ∈ f ++ ad74 f s, 40 < It.czs s p.2 ∨ 8 < It.cds s p.2
theorem rd_own74 (x : Str) : D.tup [.str x, .tup [.tup [.str x, .tup [.str (Str.ofString "*")]]]] = rD (x, [.nd x [.hole]]) := by
  unfold rD
  simp [it_nd]
  rfl
theorem ad_its74 {f s : TRl} (hs : ∀ p ∈ s, NamOk p.1) {p : Str × List It} (hp : p ∈ ad74 f s) : NamOk p.1 ∧ p.2.length ≤ 100 ∧ ∀ i ∈ p.2, i.ok 9 := by
  obtain ⟨q, hq, rfl⟩ := List.mem_map.mp hp
  have hq := hs q (List.mem_filter.mp hq).1
  refine ⟨hq, by simp, fun i hi => ?_⟩
  rw [List.mem_singleton.mp hi]
  exact ⟨hq, by simp, fun j hj => by rw [List.mem_singleton.mp hj]; trivial⟩
theorem cc_chained74 {f s : TRl} (hf : ROk f 8) (hs : ROk s 9) {h : MH} :
    Sat (m_chained_3458f [.tup (f.map rD), .tup (s.map rD)] h) (fun d h' => h <+: h' ∧ ¬ Due74 f s ∧ d = .tup ((chR f s).map rD)) (fun x fs h' => h <+: h' ∧ Due74 f s ∧ x = Str.ofString "TooMany" ∧ fs = []) := by
  have hfl := hf.len
  have hsl := hs.len
  walk_at "fn"
  refine o_listT7 (Own.nil h) fun iR h1 o1 => ?_
  walk_at "go"
  refine w_loop0 (fun k ρ h' => (∃ o3, ρ = [some (.tup (f.map rD)), some (.tup (s.map rD)), some (.ref iR), o3]) ∧ Own h h' [(iR, (f ++ ad74 f (s.take k)).map rD)] ∧ (ad74 f (s.take k)).length ≤ k) ⟨⟨none, rfl⟩, by simpa [ad74] using o1, by simp [ad74]⟩ (fun _ _ _ _ => rfl) ?_ ?_
  · rintro k d ρ h' hd ⟨⟨o3, rfl⟩, ow, hle⟩
    rw [List.getElem?_map, Option.map_eq_some_iff] at hd
    obtain ⟨⟨x, its⟩, ei, rfl⟩ := hd
    have hk := (List.getElem?_eq_some_iff.mp ei).1
    refine ⟨_, rfl, ?_⟩
    unfold rD
    dsimp only [List.set]
    walk_at "go"
    refine (cc_itemsfor hf.len).mono ?_
    rintro d h3 ⟨rfl, rfl⟩
    rw [take_s7 ei, ad_snoc74]
    cases e : look f x with
    | none =>
      walk_at "go"
      refine w_eq (isN_non74 _) ?_
      walk_at "go"
      refine o_app ow 0 rfl (by simp; omega) fun h5 o5 => ?_
      have e5 := rd_own74 x
      unfold rD at o5 e5
      rw [List.set_cons_zero, e5, map_app1] at o5
      refine ⟨⟨_, rfl⟩, ?_, by simp; omega⟩
      simp only [Option.isNone_none, if_true, ← List.append_assoc]
      exact o5
    | some r =>
      walk_at "go"
      refine w_eq (isN_tup _ _) ?_
      walk_at "go"
      refine ⟨⟨_, rfl⟩, ?_, by simp; omega⟩
      unfold rD at ow
      simpa using ow
  rintro ρ h2 ⟨⟨o3, rfl⟩, o2, hle⟩
  rw [List.length_map, List.take_length] at o2 hle
  have hR : ∀ p ∈ f ++ ad74 f s, NamOk p.1 ∧ p.2.length ≤ 100 ∧ ∀ i ∈ p.2, i.ok 9 := fun p hp => by
    rcases List.mem_append.mp hp with hp | hp
    · exact ⟨hf.nm p hp, (hf.its p hp).1, fun i hi => it_mono ((hf.its p hp).2 i hi) (by decide)⟩
    · exact ad_its74 hs.nm hp
  have hlen : (f ++ ad74 f s).length ≤ 40 := by rw [List.length_append]; omega
  have hch : chR f s = (f ++ ad74 f s).map fun p => (p.1, It.cs s p.2) := rfl
  have hdue : Due74 f s ↔ 12 < (f ++ ad74 f s).length ∨ ∃ p ∈ f ++ ad74 f s, 40 < It.czs s p.2 ∨ 8 < It.cds s p.2 := Iff.rfl
  rw [hch]
  simp only [hdue]
  clear hch hdue
  generalize f ++ ad74 f s = R at *
  walk_at "go"
  refine br_d (fun q => ?_) (fun q => ?_)
  · walk_at "go"
    exact ⟨o2.pre, .inl (by omega), rfl, rfl⟩
  have gR := o2.atL 0 rfl
  walk_at "go"
  refine w_loop0 (fun k ρ h' => h' = h2 ∧ (∃ o3, ρ = [some (.tup (f.map rD)), some (.tup (s.map rD)), some (.ref iR), o3]) ∧ ∀ p ∈ R.take k, ¬ (40 < It.czs s p.2 ∨ 8 < It.cds s p.2)) ⟨rfl, ⟨_, rfl⟩, fun p hp => by simp at hp⟩ (fun _ _ _ z => decide_eq_true (by rw [z.1]; exact gR)) ?_ ?_
  · rintro k d ρ h' hd ⟨rfl, ⟨o3, rfl⟩, hno⟩
    rw [List.getElem?_map, Option.map_eq_some_iff] at hd
    obtain ⟨⟨x, its⟩, ei, rfl⟩ := hd
    obtain ⟨_, _, h9⟩ := hR _ (List.mem_of_getElem? ei)
    refine ⟨_, rfl, ?_⟩
    unfold rD
    dsimp only [List.set]
    walk_at "go"
    refine (cc_csize74 hs 100 9 its _ (by decide) (by decide) h9).mono ?_
    rintro d h3 ⟨rfl, rfl⟩
    walk_at "go"
    refine br_d (fun q1 => ?_) (fun q1 => ?_)
    · walk_at "go"
      exact ⟨o2.pre, .inr ⟨_, List.mem_of_getElem? ei, .inl (by simp only; omega)⟩, rfl, rfl⟩
    walk_at "go"
    refine (cc_cdepth74 hs 100 9 its _ (by decide) (by decide) h9).mono ?_
    rintro d h4 ⟨rfl, rfl⟩
    walk_at "go"
    refine br_d (fun q2 => ?_) (fun q2 => ?_)
    · walk_at "go"
      exact ⟨o2.pre, .inr ⟨_, List.mem_of_getElem? ei, .inr (by simp only; omega)⟩, rfl, rfl⟩
    walk_at "go"
    refine ⟨rfl, ⟨_, rfl⟩, ?_⟩
    rw [take_s7 ei]
    exact mem_app hno (by simp only; omega)
  rintro ρ h3 ⟨rfl, ⟨o3, rfl⟩, hno⟩
  rw [List.length_map, List.take_length] at hno
  walk_at "go"
  refine o_compM74 (fun k y _ => ∃ p, R[k]? = some p ∧ y = rD (p.1, It.cs s p.2)) o2 (by rw [List.length_map]; omega) (fun h' p => decide_eq_true (pre_getL p gR)) (fun _ _ _ _ _ z => z) ?_ ?_
  · rintro k d h' hd pr hlt
    rw [List.getElem?_map, Option.map_eq_some_iff] at hd
    obtain ⟨⟨x, its⟩, ei, rfl⟩ := hd
    obtain ⟨_, _, h9⟩ := hR _ (List.mem_of_getElem? ei)
    have hn1 := hno _ (List.mem_of_getElem? ei)
    simp only at hn1
    refine ⟨_, rfl, ?_⟩
    unfold rD
    dsimp only [wipeD, List.set]
    walk_at "go"
    refine (cc_citems74 hs 100 9 its _ (by decide) (by decide) h9 (by omega)).mono ?_
    rintro d h4 ⟨p4, rfl⟩
    walk_at "go"
    exact ⟨p4, (x, its), ei, rfl⟩
  · rintro ys h4 hy hp o4
    rw [List.length_map] at hy
    have ey : ys = (R.map fun p => (p.1, It.cs s p.2)).map rD := by
      refine List.ext_getElem? fun j => ?_
      rcases Nat.lt_or_ge j R.length with z | z
      · have hj : j < ys.length := by omega
        obtain ⟨p, e1, e2⟩ := hp j ys[j] (List.getElem?_eq_getElem hj)
        rw [List.getElem?_eq_getElem hj, e2, List.getElem?_map, List.getElem?_map, e1]
        rfl
      · rw [List.getElem?_eq_none (by omega), List.getElem?_eq_none (by simpa using z)]
    subst ey
    walk_at "go"
    refine ⟨o4.pre, ?_, rfl⟩
    rintro (z | ⟨p, hp, z⟩)
    · omega
    · exact hno p hp z
end
section
open PySem L2

theorem inD_strs74 {x : Str} {l : List Str} {b : D} {h : MH} (e : seqOf h b = some (l.map .str)) (hb : ∀ z, b ≠ .str z) : inD (.str x) b h = some (decide (x ∈ l)) := by
  have h1 : ((l.map D.str).all flatD) = true := by
    rw [List.all_eq_true]
    intro d hd
    obtain ⟨y, _, rfl⟩ := List.mem_map.mp hd
    rfl
  have h2 : ((l.map D.str).any fun y => eqF y (.str x)) = decide (x ∈ l) := by
    rw [Bool.eq_iff_iff, List.any_eq_true, decide_eq_true_iff]
    constructor
    · rintro ⟨d, hd, e⟩
      obtain ⟨y, hy, rfl⟩ := List.mem_map.mp hd
      have : y = x := by simpa [eqF] using e
      exact this ▸ hy
    · intro hx
      exact ⟨.str x, List.mem_map.mpr ⟨x, hx, rfl⟩, by simp [eqF]⟩
  cases b with
  | str z => exact absurd rfl (hb z)
  | _ => simp only [inD, e, flatD, h1, and_self, if_true, h2]
theorem cc_full74 {row : List Doc} {ir : Nat} : ∀ (t w : Nat) (its : List It) (h : MH), w < t → w ≤ 9 → (∀ i ∈ its, i.ok w) → h[ir]? = some (.lst (row.map Doc.toD)) → row.length ≤ 500000 → It.szs (Doc.dss row) its ≤ 5000 → Sat (m_full_cf168 t [.tup (its.map It.toD), .ref ir] h) (fun d h' => ∃ j, d = .ref j ∧ Own h h' [(j, (It.fls row its).map Doc.toD)]) noX
  | 0, w, its, h, h1, _, _, _, _, _ => by omega
  | t + 1, w, its, h, h1, hw, hi, hr, hrl, hsz => by
    have h0 : 0 ≤ Doc.dss row := by have := dss_len row; omega
    unfold m_full_cf168
    walk_at "fn"
    refine o_new (Own.nil h) (by simp) fun iF h2 o2 => ?_
    walk_at "go"
    refine w_loop0 (fun k ρ h' => (∃ o3, ρ = [some (.tup (its.map It.toD)), some (.ref ir), some (.ref iF), o3]) ∧ Own h h' [(iF, (It.fls row (its.take k)).map Doc.toD)]) ⟨⟨none, rfl⟩, o2⟩ (fun _ _ _ _ => rfl) ?_ ?_
    · rintro k d ρ h' hd ⟨⟨o3, rfl⟩, ow⟩
      rw [List.getElem?_map, Option.map_eq_some_iff] at hd
      obtain ⟨i, ei, rfl⟩ := hd
      have him := hi i (List.mem_of_getElem? ei)
      have hmz := szs_mem h0 (List.mem_of_getElem? ei)
      have hfl := fls_len (row := row) (its := its) k
      refine ⟨_, rfl, ?_⟩
      dsimp only [List.set]
      walk_at "go"
      refine w_isHole him hw ?_
      rw [take_s7 ei, fls_snoc]
      cases i with
      | hole =>
        walk_at "go"
        refine o_ext7 ow 0 rfl (pre_get ow.pre hr) (by simp; omega) fun h3 o3' => ?_
        rw [List.set_cons_zero, ← List.map_append] at o3'
        exact ⟨⟨_, rfl⟩, o3'⟩
      | nd x l =>
        cases w with
        | zero => exact him.elim
        | succ w =>
          rw [it_nd]
          rw [It.sz] at hmz
          walk_at "go"
          refine (cc_full74 t w l h' (by omega) (by omega) him.2.2 (pre_get ow.pre hr) hrl (by omega)).mono ?_
          rintro d h3 ⟨j3, rfl, o3'⟩
          have o4 := ow.trans o3'
          walk_at "go"
          refine o_app o4 1 rfl (by simp; omega) fun h5 o5 => ?_
          have e5 : D.tup [.str x, .tup ((It.fls row l).map Doc.toD)] = (Doc.mk x (It.fls row l)).toD := (toD_mk _ _).symm
          dsimp only [List.set, List.cons_append, List.nil_append] at o5
          rw [e5, map_app1] at o5
          exact ⟨⟨_, rfl⟩, o5.tail⟩
    · rintro ρ h' ⟨⟨o3, rfl⟩, ow⟩
      rw [List.length_map, List.take_length] at ow
      walk_at "go"
      exact ⟨iF, rfl, ow⟩

theorem w_ninL74 {x : Str} {l : List Str} {h : MH} {Q : D → MH → Prop} {E : XE} {i : Nat} (e : getL h i = some (l.map .str)) (q : Q (.bl (!decide (x ∈ l))) h) : Sat (dNotIn (.str x) (.ref i) h) Q E := w_eq (by simp only [dNotIn, inD_strs74 (x := x) (l := l) (b := .ref i) (h := h) e (fun z => by simp)]) q
theorem w_notHole74 {i : It} {w : Nat} (hi : i.ok w) (hw : w ≤ 9) {h : MH} {Q : D → MH → Prop} {E : XE} (q : Q (.bl (match i with | .hole => false | .nd _ _ => true)) h) : Sat (dNe i.toD (.str (Str.ofString "*")) h) Q E := by
  cases i with
  | hole => exact w_eq (dNe_strs _ _ _) (by simpa using q)
  | nd x l =>
    have p := it_py (h := h) w 200 160 (.nd x l) hi (by omega) (by omega)
    rw [it_nd] at p ⊢
    exact w_neK (eq_tup_str p star_ok) q
section
variable {s : TRl} (hs : ROk s 9)
include hs
theorem cc_counts74 : ∀ (t w : Nat) (its : List It) (h : MH), w < t → w ≤ 9 → (∀ i ∈ its, i.ok w) → Sat (m_counts_fd1bc t [.tup (its.map It.toD), .tup (s.map rD)] h) (fun d h' => h' = h ∧ d = .tup [.int (It.czs s its), .int (It.cds s its)]) noX
  | 0, w, its, h, h1, _, _ => by omega
  | t + 1, w, its, h, h1, hw, hi => by
    unfold m_counts_fd1bc
    walk_at "fn"
    refine w_loop0 (fun k ρ h' => h' = h ∧ ∃ o4 o5 o6 o7, ρ = [some (.tup (its.map It.toD)), some (.tup (s.map rD)), some (.int (It.czs s (its.take k))), some (.int (It.cds s (its.take k))), o4, o5, o6, o7]) ⟨rfl, none, none, none, none, rfl⟩ (fun _ _ _ _ => rfl) ?_ ?_
    · rintro k d ρ h' hd ⟨rfl, o4, o5, o6, o7, rfl⟩
      rw [List.getElem?_map, Option.map_eq_some_iff] at hd
      obtain ⟨i, ei, rfl⟩ := hd
      have him := hi i (List.mem_of_getElem? ei)
      refine ⟨_, rfl, ?_⟩
      dsimp only [List.set]
      walk_at "go"
      refine w_notHole74 him hw ?_
      rw [take_s7 ei, cds_snoc74, czs_snoc74]
      cases i with
      | hole =>
        walk_at "go"
        exact ⟨rfl, _, _, _, _, by simp only [mx74, It.cd1, It.cz1]; rfl⟩
      | nd x l =>
        cases w with
        | zero => exact him.elim
        | succ w =>
          have hx := him.1
          rw [it_nd]
          walk_at "go"
          refine (cc_counts74 t w l h' (by omega) (by omega) him.2.2).mono ?_
          rintro d h2 ⟨rfl, rfl⟩
          walk_at "go"
          refine (cc_for hs.len).mono ?_
          rintro d h3 ⟨rfl, rfl⟩
          rw [It.cd1, It.cz1]
          cases e : look s x with
          | none =>
            walk_at "go"
            refine w_neK (eq_own hx.1) ?_
            walk_at "go"
            exact ⟨rfl, _, _, _, _, by simp only [mx74]; rfl⟩
          | some r =>
            walk_at "go"
            refine w_neK (eq_its (w := 9) (by decide) (its9_74 hs e) hx) ?_
            walk_at "go"
            refine (cc_size 100 9 r _ (by decide) (by decide) (its9_74 hs e)).mono ?_
            rintro d h4 ⟨rfl, rfl⟩
            walk_at "go"
            refine (cc_deep74 (cds_pos74 s l) 100 9 r _ (by decide) (by decide) (its9_74 hs e)).mono ?_
            rintro d h5 ⟨rfl, rfl⟩
            walk_at "go"
            exact ⟨rfl, _, _, _, _, by simp only [mx74]; rfl⟩
    · rintro ρ h' ⟨rfl, o4, o5, o6, o7, rfl⟩
      rw [List.length_map, List.take_length]
      walk_at "go"
      exact ⟨rfl, rfl⟩
end
theorem cc_itemsok74 : ∀ (t w : Nat) (its : List It) (h : MH), w < t → w ≤ 9 → its.length ≤ 1000 → (∀ i ∈ its, i.ok w) → Sat (m_items_ok_00e70 t [.tup (its.map It.toD)] h) (fun d h' => h' = h ∧ d = .bl true) noX
  | 0, w, its, h, h1, _, _, _ => by omega
  | t + 1, w, its, h, h1, hw, hl, hi => by
    unfold m_items_ok_00e70
    walk_at "fn"
    refine w_loop0 (fun k ρ h' => h' = h ∧ ∃ o1, ρ = [some (.tup (its.map It.toD)), o1]) ⟨rfl, none, rfl⟩ (fun _ _ _ _ => rfl) ?_ ?_
    · rintro k d ρ h' hd ⟨rfl, o1, rfl⟩
      rw [List.getElem?_map, Option.map_eq_some_iff] at hd
      obtain ⟨i, ei, rfl⟩ := hd
      have him := hi i (List.mem_of_getElem? ei)
      refine ⟨_, rfl, ?_⟩
      dsimp only [List.set]
      cases i with
      | hole =>
        rw [It.toD]
        walk_at "go"
        exact ⟨rfl, _, rfl⟩
      | nd x l =>
        cases w with
        | zero => exact him.elim
        | succ w =>
          have hl := him.2.1
          rw [it_nd]
          walk_at "go"
          refine w_eq (isi_str_tup _ _) ?_
          walk_at "go"
          refine (cc_itemsok74 t w l h' (by omega) (by omega) (by omega) him.2.2).mono ?_
          rintro d h2 ⟨rfl, rfl⟩
          walk_at "go"
          exact ⟨rfl, _, rfl⟩
    · rintro ρ h' ⟨rfl, o1, rfl⟩
      walk_at "go"
      exact ⟨rfl, rfl⟩
theorem cc_toldok74 {rl : TRl} {w : Nat} (hr : ROk rl w) (hw : w ≤ 9) {h : MH} {j : Nat} {nm : List Str} (en : nm = rl.map (·.1)) (hj : getL h j = some (nm.map .str)) : Sat (m_told_ok_bc759 [.tup (rl.map rD), .ref j] h) (fun d h' => h <+: h' ∧ d = .bl true) noX := by
  have hl := hr.len
  have hln : nm.length = rl.length := by rw [en, List.length_map]
  walk_at "fn"
  refine w_loop0 (fun k ρ h' => h <+: h' ∧ ∃ o2, ρ = [some (.tup (rl.map rD)), some (.ref j), o2]) ⟨List.prefix_rfl, none, rfl⟩ (fun _ _ _ _ => rfl) ?_ ?_
  · rintro k d ρ h' hd ⟨p, o2, rfl⟩
    obtain ⟨hk, rfl⟩ := rangeD_get hd
    have hk2 : k < rl.length := by have : k < nm.length := by simpa using hk
                                   omega
    have e1 : rl[k]? = some rl[k] := List.getElem?_eq_getElem hk2
    have hm := List.getElem_mem hk2
    generalize rl[k] = p1 at e1 hm
    obtain ⟨x, its⟩ := p1
    obtain ⟨hil, hit⟩ := hr.its _ hm
    simp only at hil hit
    have a1 : atI (rl.map rD) (0 + (k : Int)) = some (.tup [.str x, .tup (its.map It.toD)]) := by rw [Int.zero_add]; exact atI_at (by rw [List.getElem?_map, e1]; rfl)
    have a2 : atI (nm.map D.str) (0 + (k : Int)) = some (.str x) := by rw [Int.zero_add, en]; exact atI_at (by rw [List.getElem?_map, List.getElem?_map, e1]; rfl)
    have hj' := pre_getL p hj
    refine ⟨_, rfl, ?_⟩
    dsimp only [List.set]
    walk_at "go"
    refine (same_str (t := 169)).mono ?_
    rintro y h2 ⟨p2, rfl⟩
    walk_at "go"
    refine (cc_itemsok74 100 w its _ (by omega) hw (by omega) hit).mono ?_
    rintro y h3 ⟨rfl, rfl⟩
    walk_at "go"
    exact ⟨p.trans p2, _, rfl⟩
  · rintro ρ h' ⟨p, o2, rfl⟩
    walk_at "go"
    exact ⟨p, rfl⟩
theorem okz74 : OkS (Str.ofString "zz") ∧ OkS (Str.ofString "z") ∧ OkS (Str.ofString "zzz") ∧ OkS (Str.ofString "zzzz") ∧ OkS (Str.ofString "zzzzzzzz") := by unfold OkS; decide +kernel
theorem k_plain74 {h : MH} {j : Nat} {l : List Str} (hj : getL h j = some (l.map .str)) : Sat (m_plain_f8b51 [.ref j] h) (fun d h' => h <+: h' ∧ ∃ x, d = .str x ∧ OkS x) noX := by
  walk_at "fn"
  refine o_new (Own.nil h) (by simp) fun iZ h1 o1 => ?_
  have gZ := o1.atL 0 rfl
  have gj := pre_getL o1.pre hj
  walk_at "go"
  refine w_loop0 (fun k ρ h' => h' = h1 ∧ ∃ o1, ρ = [some (.ref j), o1]) ⟨rfl, none, rfl⟩ (fun _ _ _ z => decide_eq_true (by rw [z.1]; exact gZ)) ?_ ?_
  · rintro k d ρ h' hd ⟨rfl, o2, rfl⟩
    obtain ⟨x, rfl, hx⟩ : ∃ x, d = .str x ∧ OkS x := by
      match k, hd with
      | 0, hd => exact ⟨_, by simpa using hd.symm, okz74.1⟩
      | 1, hd => exact ⟨_, by simpa using hd.symm, okz74.2.1⟩
      | 2, hd => exact ⟨_, by simpa using hd.symm, okz74.2.2.1⟩
      | 3, hd => exact ⟨_, by simpa using hd.symm, okz74.2.2.2.1⟩
      | n + 4, hd => simp at hd
    refine ⟨_, rfl, ?_⟩
    dsimp only [List.set]
    walk_at "go"
    refine w_ninL74 gj ?_
    walk_at "go"
    cases decide (x ∈ l) with
    | true =>
      walk_at "go"
      exact ⟨rfl, _, rfl⟩
    | false =>
      walk_at "go"
      exact ⟨o1.pre, x, rfl, hx⟩
  · rintro ρ h' ⟨rfl, o2, rfl⟩
    walk_at "go"
    exact ⟨o1.pre, _, rfl, okz74.2.2.2.2⟩
end
section
open PySem L2

mutual
def wmx (rl : TRl) : Doc → Int
  | .mk x l => max (wmxs rl l) (tsz rl (.mk x l))
def wmxs (rl : TRl) : List Doc → Int
  | [] => 0
  | d :: l => max (wmx rl d) (wmxs rl l)
end
theorem wmx_pos74 (rl : TRl) (d : Doc) : 0 ≤ wmx rl d := by cases d; rw [wmx]; have := tsz_pos rl (.mk ‹_› ‹_›); omega
theorem wmxs_snoc74 (rl : TRl) (d : Doc) : ∀ l : List Doc, wmxs rl (l ++ [d]) = max (wmxs rl l) (wmx rl d)
  | [] => by have := wmx_pos74 rl d; simp only [List.nil_append, wmxs]; omega
  | e :: l => by rw [List.cons_append, wmxs, wmxs_snoc74 rl d l, wmxs]; omega
theorem wmxs_mem74 (rl : TRl) : ∀ {l : List Doc} {d : Doc}, d ∈ l → wmx rl d ≤ wmxs rl l
  | e :: l, d, h => by
    rw [wmxs]
    rcases List.mem_cons.mp h with rfl | h
    · omega
    · have := wmxs_mem74 rl h; omega
theorem tsz_wmx74 (rl : TRl) (d : Doc) : tsz rl d ≤ wmx rl d := by cases d; rw [wmx]; omega
mutual
def Doc.g74 (n : Nat) : Doc → Prop
  | .mk x l => OkS x ∧ l.length ≤ n ∧ Doc.gs74 n l
def Doc.gs74 (n : Nat) : List Doc → Prop
  | [] => True
  | d :: l => d.g74 n ∧ Doc.gs74 n l
end
theorem gs_iff74 {n : Nat} : ∀ {l : List Doc}, Doc.gs74 n l ↔ ∀ d ∈ l, d.g74 n
  | [] => by simp [Doc.gs74]
  | i :: l => by rw [Doc.gs74, gs_iff74]; simp
mutual
def Doc.n74 : Doc → Prop
  | .mk x l => OkS x ∧ Doc.ns74 l
def Doc.ns74 : List Doc → Prop
  | [] => True
  | d :: l => d.n74 ∧ Doc.ns74 l
end
theorem ns_iff74 : ∀ {l : List Doc}, Doc.ns74 l ↔ ∀ d ∈ l, d.n74
  | [] => by simp [Doc.ns74]
  | i :: l => by rw [Doc.ns74, ns_iff74]; simp
theorem ns_app74 {a b : List Doc} (ha : Doc.ns74 a) (hb : Doc.ns74 b) : Doc.ns74 (a ++ b) := ns_iff74.mpr fun d hd => by
  rcases List.mem_append.mp hd with h | h
  · exact ns_iff74.mp ha d h
  · exact ns_iff74.mp hb d h
mutual
theorem fl_n74 {R : List Doc} (hR : Doc.ns74 R) : ∀ i : It, i.nk → Doc.ns74 (i.fl R)
  | .hole, _ => by rw [It.fl]; exact hR
  | .nd x l, h => by rw [It.fl]; exact ⟨⟨h.1.1, fls_n74 hR l h.2⟩, trivial⟩
theorem fls_n74 {R : List Doc} (hR : Doc.ns74 R) : ∀ l : List It, It.nks l → Doc.ns74 (It.fls R l)
  | [], _ => trivial
  | i :: l, h => by rw [It.fls]; exact ns_app74 (fl_n74 hR i h.1) (fls_n74 hR l h.2)
end
mutual
theorem trw_n74 {rl : TRl} (hr : Rnk rl) {n : Nat} : ∀ d : Doc, d.g74 n → Doc.ns74 (trw rl d)
  | .mk x l, h => by
    have ih := trws_n74 hr l h.2.2
    rw [trw]
    cases e : look rl x with
    | none => exact ⟨⟨h.1, ih⟩, trivial⟩
    | some its => exact fls_n74 ih its (hr _ (look_mem e))
theorem trws_n74 {rl : TRl} (hr : Rnk rl) {n : Nat} : ∀ l : List Doc, Doc.gs74 n l → Doc.ns74 (trws rl l)
  | [], _ => trivial
  | d :: l, h => by rw [trws]; exact ns_app74 (trw_n74 hr d h.1) (trws_n74 hr l h.2)
end
mutual
theorem g_of74 {n : Nat} : ∀ d : Doc, d.n74 → d.ds ≤ (n : Int) → d.g74 n
  | .mk x l, h, hd => by
    rw [Doc.ds] at hd
    have h1 := dss_len l
    exact ⟨h.1, by omega, gs_of74 l h.2 (by omega)⟩
theorem gs_of74 {n : Nat} : ∀ l : List Doc, Doc.ns74 l → Doc.dss l ≤ (n : Int) → Doc.gs74 n l
  | [], _, _ => trivial
  | d :: l, h, hd => by
    rw [Doc.dss] at hd
    have h1 := dss_len l
    have h2 := (ds_pos d).1
    exact ⟨g_of74 d h.1 (by omega), gs_of74 l h.2 (by omega)⟩
end
theorem rnk_of74 {rl : TRl} {w : Nat} (hr : ROk rl w) : Rnk rl := fun p hp => nks_iff74.mpr fun i hi => ok_nk74 ((hr.its p hp).2 i hi)
section
variable {rl : TRl} {w9 : Nat} (hr : ROk rl w9) (hw9 : w9 ≤ 9)
include hr hw9
theorem its_w74 {x : Str} {r : List It} (h : look rl x = some r) : ∀ i ∈ r, i.ok 9 := fun i hi => it_mono ((hr.its _ (look_mem h)).2 i hi) hw9
theorem cc_weight74 {n : Nat} : ∀ (t : Nat) (d : Doc) (h : MH), d.ht ≤ t → d.g74 n → Sat (m_weight_cea8b t [.tup (rl.map rD), d.toD] h) (fun r h' => h' = h ∧ r = .tup [.int (tsz rl d), .int (wmx rl d)]) noX
  | 0, .mk x l, h, ht, _ => by rw [Doc.ht] at ht; omega
  | t + 1, .mk x l, h, ht, hg => by
    rw [Doc.ht] at ht
    rw [toD_mk]
    unfold m_weight_cea8b
    walk_at "fn"
    refine w_loop0 (fun k ρ h' => h' = h ∧ ∃ o4 o6, ρ = [some (.tup (rl.map rD)), some (.tup [.str x, .tup (l.map Doc.toD)]), some (.int (tszs rl (l.take k))), some (.int (wmxs rl (l.take k))), o4, none, o6]) ⟨rfl, none, none, rfl⟩ (fun _ _ _ _ => rfl) ?_ ?_
    · rintro k y ρ h' hy ⟨rfl, o4, o6, rfl⟩
      rw [List.getElem?_map, Option.map_eq_some_iff] at hy
      obtain ⟨c, ec, rfl⟩ := hy
      have hc := List.mem_of_getElem? ec
      have hch := hts_mem hc
      refine ⟨_, rfl, ?_⟩
      dsimp only [List.set]
      rw [take_s7 ec, tszs_snoc, wmxs_snoc74]
      walk_at "go"
      refine (cc_weight74 t c h' (by omega) (gs_iff74.mp hg.2.2 c hc)).mono ?_
      rintro y h2 ⟨rfl, rfl⟩
      walk_at "go"
      exact ⟨rfl, _, _, by simp only [mx74]; rfl⟩
    · rintro ρ h' ⟨rfl, o4, o6, rfl⟩
      rw [List.length_map, List.take_length]
      walk_at "go"
      refine (cc_for hr.len).mono ?_
      rintro d h2 ⟨rfl, rfl⟩
      rw [wmx, tsz]
      cases e : look rl x with
      | none =>
        walk_at "go"
        refine w_neK (eq_own hg.1) ?_
        walk_at "go"
        exact ⟨rfl, by simp only [mx74]⟩
      | some its =>
        have hn := hr.nm _ (look_mem e)
        walk_at "go"
        refine w_neK (eq_its (w := 9) (by decide) (its_w74 hr hw9 e) hn) ?_
        walk_at "go"
        have es : 1 + tszs rl l - 1 = tszs rl l := by omega
        rw [es]
        refine (cc_size 100 9 its _ (by decide) (by decide) (its_w74 hr hw9 e)).mono ?_
        rintro d h3 ⟨rfl, rfl⟩
        walk_at "go"
        exact ⟨rfl, by simp only [mx74]⟩
theorem tszs_le74 : ∀ l : List Doc, (∀ d ∈ l, tsz rl d ≤ 400) → tszs rl l ≤ 400 * (l.length : Int)
  | [], _ => by simp [tszs]
  | d :: l, h => by
    rw [tszs, List.length_cons]
    have h1 := h d List.mem_cons_self
    have h2 := tszs_le74 l fun e he => h e (List.mem_cons_of_mem _ he)
    omega
theorem cc_turn74 : ∀ (t : Nat) (d : Doc) (h : MH), d.ht ≤ t → d.g74 400 → wmx rl d ≤ 400 → Sat (m_turn_d7ca0 t [.tup (rl.map rD), d.toD] h) (fun r h' => ∃ j, r = .ref j ∧ Own h h' [(j, (trw rl d).map Doc.toD)]) noX
  | 0, .mk x l, h, ht, _, _ => by rw [Doc.ht] at ht; omega
  | t + 1, .mk x l, h, ht, hg, hm => by
    rw [Doc.ht] at ht
    have hm2 := tsz_wmx74 rl (.mk x l)
    have hm1 : wmxs rl l ≤ 400 := by rw [wmx] at hm; omega
    rw [toD_mk]
    have hl := hg.2.1
    have hk400 : ∀ k, ((trws rl (l.take k)).length : Int) ≤ 160000 := fun k => by
      have h1 := dss_len (trws rl (l.take k))
      rw [trws_dss] at h1
      have h2 := tszs_le74 hr hw9 (l.take k) fun d hd => by
        have := wmxs_mem74 rl (List.mem_of_mem_take hd)
        have := tsz_wmx74 rl d
        omega
      have h3 : (l.take k).length ≤ 400 := by rw [List.length_take]; omega
      omega
    unfold m_turn_d7ca0
    walk_at "fn"
    refine o_new (Own.nil h) (by simp) fun iF h2 o2 => ?_
    walk_at "go"
    refine w_loop0 (fun k ρ h' => (∃ o3, ρ = [some (.tup (rl.map rD)), some (.tup [.str x, .tup (l.map Doc.toD)]), some (.ref iF), o3, none]) ∧ Own h h' [(iF, (trws rl (l.take k)).map Doc.toD)]) ⟨⟨none, rfl⟩, o2⟩ (fun _ _ _ _ => rfl) ?_ ?_
    · rintro k y ρ h' hy ⟨⟨o3, rfl⟩, ow⟩
      rw [List.getElem?_map, Option.map_eq_some_iff] at hy
      obtain ⟨c, ec, rfl⟩ := hy
      have hc := List.mem_of_getElem? ec
      have hch := hts_mem hc
      have hcm := wmxs_mem74 rl hc
      have hct := tsz_wmx74 rl c
      have hcl := dss_len (trw rl c)
      rw [trw_dss] at hcl
      have hkk := hk400 k
      refine ⟨_, rfl, ?_⟩
      dsimp only [List.set]
      rw [take_s7 ec, trws_snoc]
      walk_at "go"
      refine (cc_turn74 t c h' (by omega) (gs_iff74.mp hg.2.2 c hc) (by omega)).mono ?_
      rintro y h3 ⟨j, rfl, o3'⟩
      have o4 := ow.trans o3'
      walk_at "go"
      refine o_ext7 o4 1 rfl (o4.at 0 rfl) (by simp; omega) fun h5 o5 => ?_
      dsimp only [List.set, List.cons_append, List.nil_append] at o5
      rw [← List.map_append] at o5
      exact ⟨⟨_, rfl⟩, o5.tail⟩
    · rintro ρ h' ⟨⟨o3, rfl⟩, ow⟩
      have hkk := hk400 l.length
      rw [List.length_map, List.take_length] at ow
      rw [List.take_length] at hkk
      walk_at "go"
      refine (cc_for hr.len).mono ?_
      rintro d h2 ⟨rfl, rfl⟩
      rw [trw]
      rw [tsz] at hm2
      cases e : look rl x with
      | none =>
        walk_at "go"
        refine w_eqK (eq_own hg.1) ?_
        walk_at "go"
        refine o_new ow (by simp) fun iN h4 o4 => ?_
        have e5 : D.tup [.str x, .tup ((trws rl l).map Doc.toD)] = (Doc.mk x (trws rl l)).toD := (toD_mk _ _).symm
        rw [e5] at o4
        exact ⟨iN, rfl, o4.head⟩
      | some its =>
        rw [e] at hm2
        simp only at hm2
        have hn := hr.nm _ (look_mem e)
        walk_at "go"
        refine w_eqK (eq_its (w := 9) (by decide) (its_w74 hr hw9 e) hn) ?_
        walk_at "go"
        refine (cc_full74 100 9 its _ (by decide) (by decide) (its_w74 hr hw9 e) (ow.at 0 rfl) (by omega) (by rw [trws_dss]; omega)).mono ?_
        rintro d h3 ⟨j, rfl, o3'⟩
        exact ⟨j, rfl, (ow.trans o3').head⟩
end
theorem dps_of74 {rl : TRl} {w : Nat} (hr : ROk rl w) : RlD rl w := fun p hp => its_dp (hr.its p hp).2
theorem fit_row74 {rl : TRl} (hr : ROk rl 8) {d : Doc} (hh : d.ht ≤ 8) (hs : tsz rl d ≤ 400) : (∀ e ∈ trw rl d, e.fit 64 ∧ e.ht ≤ 64 ∧ e.ds ≤ 400) ∧ (trw rl d).length ≤ 400 := by
  have h1 := trw_hts (by decide : 1 ≤ 8) (dps_of74 hr) d
  have h2 := trw_dss rl d
  have h3 := dss_len (trw rl d)
  refine ⟨fun e he => ?_, by omega⟩
  have h4 := hts_mem he
  have h5 := dss_mem he
  have h6 : e.ht ≤ 64 := by omega
  exact ⟨fit_of 64 e h6 (by omega), h6, by omega⟩
theorem cc_agree74 {f s : TRl} (hf : ROk f 8) (hs : ROk s 9) (ht : ROk (chR f s) 8) {d : Doc} (hd : d.ht ≤ 8) (hg : d.g74 400) {h : MH} :
    Sat (m_agree_cecf8 [.tup (f.map rD), .tup (s.map rD), .tup ((chR f s).map rD), d.toD] h) (fun y h' => h <+: h' ∧ y = .bl true) noX := by
  walk_at "fn"
  refine (cc_weight74 hf (by decide) 100 d h (by omega) hg).mono ?_
  rintro y h1 ⟨rfl, rfl⟩
  walk_at "go"
  refine (cc_weight74 ht (by decide) 100 d h1 (by omega) hg).mono ?_
  rintro y h1' ⟨rfl, rfl⟩
  walk_at "go"
  refine br_d (fun q => ?_) (fun q => ?_)
  · walk_at "go"
    exact ⟨List.prefix_rfl, rfl⟩
  have q1 : wmx f d ≤ 400 := by simp only [mx74] at q; omega
  have q2 : wmx (chR f s) d ≤ 400 := by simp only [mx74] at q; omega
  have z1 := tsz_wmx74 f d
  have z2 := tsz_wmx74 (chR f s) d
  obtain ⟨r1, r2⟩ := fit_row74 hf hd (by omega)
  obtain ⟨u1, u2⟩ := fit_row74 ht hd (by omega)
  have hn := ns_iff74.mp (trw_n74 (rnk_of74 hf) d hg)
  walk_at "go"
  refine (cc_turn74 hf (by decide) 100 d h1' (by omega) hg q1).mono ?_
  rintro y h2 ⟨jr, rfl, o2⟩
  have gR := o2.atL 0 rfl
  walk_at "go"
  refine o_new o2 (by simp) fun iD h3 o3 => ?_
  have gR3 := o3.atL 1 rfl
  walk_at "go"
  have ech := trw_ch74 f s d
  generalize trw f d = R at *
  have hk400 : ∀ k, (∀ e ∈ R.take k, wmx s e ≤ 400) → ((trws s (R.take k)).length : Int) ≤ 160000 := fun k hk => by
    have h1 := dss_len (trws s (R.take k))
    rw [trws_dss] at h1
    have h2 := tszs_le74 hs (by decide) (R.take k) fun d hd => by
      have := tsz_wmx74 s d
      have := hk d hd
      omega
    have h3 : (R.take k).length ≤ 400 := by rw [List.length_take]; omega
    omega
  refine w_loop0 (fun k ρ h' => (∃ o6, ρ = [some (.tup (f.map rD)), some (.tup (s.map rD)), some (.tup ((chR f s).map rD)), some d.toD, some (.ref jr), some (.ref iD), o6]) ∧ Own h1' h' [(iD, (trws s (R.take k)).map Doc.toD), (jr, R.map Doc.toD)] ∧ ∀ e ∈ R.take k, wmx s e ≤ 400) ⟨⟨none, rfl⟩, o3, fun e he => by simp at he⟩ (fun _ _ _ z => decide_eq_true (z.2.1.atL 1 rfl)) ?_ ?_
  · rintro k y ρ h' hy ⟨⟨o6, rfl⟩, ow, hno⟩
    rw [List.getElem?_map, Option.map_eq_some_iff] at hy
    obtain ⟨c, ec, rfl⟩ := hy
    have hc := List.mem_of_getElem? ec
    obtain ⟨_, c2, c3⟩ := r1 c hc
    have cg := g_of74 (n := 400) c (hn c hc) c3
    have hkk := hk400 k hno
    have hcl := dss_len (trw s c)
    rw [trw_dss] at hcl
    have hct := tsz_wmx74 s c
    refine ⟨_, rfl, ?_⟩
    dsimp only [List.set]
    walk_at "go"
    refine (cc_weight74 hs (by decide) 100 c h' (by omega) cg).mono ?_
    rintro y h4 ⟨rfl, rfl⟩
    walk_at "go"
    refine br_d (fun q3 => ?_) (fun q3 => ?_)
    · walk_at "go"
      exact ⟨ow.pre, rfl⟩
    walk_at "go"
    refine (cc_turn74 hs (by decide) 100 c h4 (by omega) cg (by omega)).mono ?_
    rintro y h5 ⟨j, rfl, o5⟩
    have o6' := ow.trans o5
    walk_at "go"
    refine o_ext7 o6' 1 rfl (o6'.at 0 rfl) (by simp; omega) fun h7 o7 => ?_
    dsimp only [List.set, List.cons_append, List.nil_append] at o7
    rw [← List.map_append] at o7
    refine ⟨⟨_, rfl⟩, ?_, ?_⟩
    · rw [take_s7 ec, trws_snoc]; exact o7.tail
    · rw [take_s7 ec]; exact mem_app hno (by omega)
  · rintro ρ h4 ⟨⟨o6, rfl⟩, ow, hno⟩
    rw [List.length_map, List.take_length] at ow hno
    rw [← ech] at ow
    have gD := ow.atL 0 rfl
    walk_at "go"
    refine (cc_turn74 ht (by decide) 100 d h4 (by omega) hg q2).mono ?_
    rintro y h5 ⟨j, rfl, o5⟩
    have gD5 := pre_getL o5.pre gD
    walk_at "go"
    refine (same_all (t := 169) (A := (trw (chR f s) d).map Doc.toD) (by rw [List.length_map]; omega) fun a ha h' => ?_).mono ?_
    · obtain ⟨e, he, rfl⟩ := List.mem_map.mp ha
      exact (same_both 64).1 169 e h' (u1 e he).1 (by decide)
    · rintro y h6 ⟨p6, rfl⟩
      exact ⟨ow.pre.trans (o5.pre.trans p6), rfl⟩
end
end Mi
namespace Mi
open PySem L2
local macro_rules | `(tactic| walk_at "w") => `(tactic| first
  | with_reducible refine w_asgT ?_
  | with_reducible refine w_eq (isi_str_str _ _) ?_
  | with_reducible refine w_eq (isi_int_int _ _) ?_
  | with_reducible refine w_eq (isi_tup_tup _ _) ?_)
local macro_rules | `(tactic| walk_at "w") => `(tactic| first
  | with_reducible refine w_un ?_
  | with_reducible refine w_rev1 ?_
  | with_reducible refine w_rev2 ?_
  | with_reducible refine w_chain ?_
  | with_reducible refine w_chK ?_
  | with_reducible refine w_retN ?_
  | with_reducible refine w_brk ?_
  | with_reducible refine w_cont ?_)
local macro_rules | `(tactic| walk_at "w") => `(tactic| first
  | with_reducible refine w_notV ?_
  | with_reducible refine w_andK ?_
  | with_reducible refine w_orK ?_
  | with_reducible refine w_notK ?_
  | with_reducible refine w_revL ?_
  | with_reducible refine w_listRg1 ?_
  | with_reducible refine w_tindex ?_
  | with_reducible refine w_setIx ?_)
local macro_rules | `(tactic| walk_at "w") => `(tactic| first
  | with_reducible refine w_some ?_
  | with_reducible refine w_unI ?_
  | with_reducible refine w_meth ?_
  | with_reducible refine w_isi ?_
  | with_reducible refine w_zip ?_
  | with_reducible refine w_ifE ?_
  | with_reducible refine w_andV ?_
  | with_reducible refine w_orV ?_)
local macro_rules | `(tactic| walk_at "w") => `(tactic| first
  | with_reducible refine w_range2 ?_
  | ((with_reducible refine w_dR1 ?_ ?_); (first | decide | omega))
  | ((with_reducible refine w_dR2 ?_ ?_); (first | decide | omega))
  | with_reducible refine w_iter ?_
  | with_reducible refine w_eq (iter1_tup _ _) ?_
  | with_reducible refine w_eq (iter1_str _ _) ?_
  | with_reducible refine w_sl ?_
  | with_reducible refine w_no ?_)
local macro_rules | `(tactic| walk_at "w") => `(tactic| first
  | ((with_reducible refine br_dt ?_ ?_); (first | assumption | omega))
  | ((with_reducible refine br_df ?_ ?_); (first | assumption | omega))
  | with_reducible refine w_tup ?_
  | ((with_reducible refine w_toTup ?_ ?_); exact (by simp))
  | with_reducible refine w_lst ?_
  | with_reducible refine w_lc ?_
  | with_reducible refine w_for ?_
  | with_reducible refine w_range1 ?_)
local macro_rules | `(tactic| walk_at "w") => `(tactic| first
  | with_reducible refine w_eq (dMin_ev _ _ _) ?_
  | with_reducible refine w_eq (dAbs_ev _ _) ?_
  | with_reducible refine w_not ?_
  | with_reducible refine w_and ?_
  | with_reducible refine w_or ?_
  | with_reducible refine br_n ?_
  | with_reducible refine br_tt ?_
  | with_reducible refine br_ff ?_)
local macro_rules | `(tactic| walk_at "w") => `(tactic| first
  | ((with_reducible refine w_fdiv ?_ ?_); (first | assumption | decide | omega))
  | ((with_reducible refine w_mulS ?_ ?_); (first | decide | omega))
  | ((with_reducible refine w_addS ?_ ?_); (first | assumption | decide | omega))
  | ((with_reducible refine w_lenS ?_ ?_); (first | assumption | decide | omega))
  | ((with_reducible refine w_slS ?_ ?_); (first | assumption | decide | omega))
  | with_reducible refine w_eq (dLen_tup _ _) ?_
  | with_reducible refine w_eq (dSl_tup _ _ _ _) ?_
  | with_reducible refine w_eq (dMax_ev _ _ _) ?_)
local macro_rules | `(tactic| walk_at "w") => `(tactic| first
  | with_reducible refine w_eq (dEq_int _ _ _) ?_
  | with_reducible refine w_eq (dEq_str _ _ _) ?_
  | with_reducible refine w_eq (dLt_int _ _ _) ?_
  | with_reducible refine w_eq (dLe_int _ _ _) ?_
  | with_reducible refine w_eq (dGt_int _ _ _) ?_
  | with_reducible refine w_eq (dGe_int _ _ _) ?_
  | with_reducible refine w_eq (dNe_int _ _ _) ?_
  | ((with_reducible refine w_mod ?_ ?_); (first | assumption | decide | omega)))
local macro_rules | `(tactic| walk_at "w") => `(tactic| first
  | with_reducible refine w_if ?_
  | with_reducible refine w_B ?_
  | with_reducible refine w_unB ?_
  | with_reducible refine w_ret ?_
  | with_reducible refine w_drop ?_
  | with_reducible refine w_skip ?_
  | with_reducible refine w_eq (dAdd_int _ _ _) ?_
  | with_reducible refine w_eq (dSub_int _ _ _) ?_)
local macro_rules | `(tactic| walk_at "w") => `(tactic| first
  | with_reducible refine w_seq ?_
  | with_reducible refine w_asg ?_
  | with_reducible refine w_cons ?_
  | with_reducible refine w_nil ?_
  | with_reducible refine w_c ?_
  | ((with_reducible refine w_var (d := ?_) ?_ ?_); rotate_left; rfl)
  | with_reducible refine w_bin ?_
  | with_reducible refine w_call ?_)
local macro_rules | `(tactic| walk_at "go") => `(tactic| (repeat (walk_at "w")); try dsimp only [List.set])
local macro_rules | `(tactic| walk_at "fn") => `(tactic| ((refine w_fun ?_); simp only [startD, List.map_cons, List.map_nil, List.reduceReplicate, Nat.reduceSub, List.cons_append, List.nil_append]; walk_at "go"))
structure Tab (F K : List D) : Prop where
  fs : Wds 20 F
  fl : F.length ≤ 20
  k1 : 1 ≤ K.length
  k8 : K.length ≤ 8
  ks : InL (2 ^ F.length) K
theorem Wds.get {n : Nat} {l : List D} (h : Wds n l) {d : D} (hd : d ∈ l) : ∃ x, d = .str x ∧ Wd n x := by
  obtain ⟨ns, rfl, hn⟩ := h
  obtain ⟨x, hx, rfl⟩ := List.mem_map.mp hd
  exact ⟨x, rfl, hn x hx⟩
theorem Wds.nil (n : Nat) : Wds n [] := ⟨[], rfl, fun x hx => by simp at hx⟩
def nletters : Str := Str.ofString "nopqrstuvwxyzabcdefghijklm"
/-! the marks' forms -/
def sel (v : Int) (F : List D) : Nat → List D
  | 0 => []
  | k + 1 => sel v F k ++ match F[k]? with
    | some d => if v / 2 ^ k % 2 = 1 then [d] else []
    | none => []
abbrev HP := Nat × Nat × List D
def hCells (ps : List HP) : LL := ps.flatMap fun p => [(p.1, p.2.2), (p.2.1, p.2.2)]
def hItems (ps : List HP) : List D := ps.reverse.map fun p => .tup [.ref p.1, .ref p.2.1]
theorem Own.perm {h0 h : MH} {L M : LL} (o : Own h0 h L) (p : L.Perm M) : Own h0 h M := ⟨o.pre, fun q hq => o.cell q (p.mem_iff.mpr hq), (p.map _).nodup_iff.mp o.nd⟩
theorem Wds.eqL {n : Nat} {l : List D} (hw : Wds n l) {h : MH} {i j : Nat} (hi : getL h i = some l) (hj : getL h j = some l) : eqD (.ref i) (.ref j) h = some true := by
  obtain ⟨ns, rfl, hn⟩ := hw
  rw [scal_str.eqL hi hj (fun a ha => (hn a ha).2) (fun a ha => (hn a ha).2)]
  simp
end Mi
namespace Mi
open PySem L2
local macro_rules | `(tactic| walk_at "w") => `(tactic| first
  | with_reducible refine w_asgT ?_
  | with_reducible refine w_eq (isi_str_str _ _) ?_
  | with_reducible refine w_eq (isi_int_int _ _) ?_
  | with_reducible refine w_eq (isi_tup_tup _ _) ?_
  | with_reducible refine w_eq (isi_bool_int _ _) ?_
  | with_reducible refine w_eq (isi_str_int _ _) ?_
  | with_reducible refine w_eq (dNeg_int _ _) ?_)
local macro_rules | `(tactic| walk_at "w") => `(tactic| first
  | with_reducible refine w_un ?_
  | with_reducible refine w_rev1 ?_
  | with_reducible refine w_rev2 ?_
  | with_reducible refine w_chain ?_
  | with_reducible refine w_chK ?_
  | with_reducible refine w_retN ?_
  | with_reducible refine w_brk ?_
  | with_reducible refine w_cont ?_)
local macro_rules | `(tactic| walk_at "w") => `(tactic| first
  | with_reducible refine w_notV ?_
  | with_reducible refine w_andK ?_
  | with_reducible refine w_orK ?_
  | with_reducible refine w_notK ?_
  | with_reducible refine w_revL ?_
  | with_reducible refine w_listRg1 ?_
  | with_reducible refine w_tindex ?_
  | with_reducible refine w_setIx ?_)
local macro_rules | `(tactic| walk_at "w") => `(tactic| first
  | with_reducible refine w_some ?_
  | with_reducible refine w_unI ?_
  | with_reducible refine w_meth ?_
  | with_reducible refine w_isi ?_
  | with_reducible refine w_zip ?_
  | with_reducible refine w_ifE ?_
  | with_reducible refine w_andV ?_
  | with_reducible refine w_orV ?_)
local macro_rules | `(tactic| walk_at "w") => `(tactic| first
  | with_reducible refine w_range2 ?_
  | ((with_reducible refine w_dR1 ?_ ?_); (first | decide | omega))
  | ((with_reducible refine w_dR2 ?_ ?_); (first | decide | omega))
  | with_reducible refine w_iter ?_
  | with_reducible refine w_eq (iter1_tup _ _) ?_
  | with_reducible refine w_eq (iter1_str _ _) ?_
  | with_reducible refine w_sl ?_
  | with_reducible refine w_no ?_)
local macro_rules | `(tactic| walk_at "w") => `(tactic| first
  | ((with_reducible refine br_dt ?_ ?_); (first | assumption | omega))
  | ((with_reducible refine br_df ?_ ?_); (first | assumption | omega))
  | with_reducible refine w_tup ?_
  | ((with_reducible refine w_toTup ?_ ?_); exact (by simp))
  | with_reducible refine w_lst ?_
  | with_reducible refine w_lc ?_
  | with_reducible refine w_for ?_
  | with_reducible refine w_range1 ?_)
local macro_rules | `(tactic| walk_at "w") => `(tactic| first
  | with_reducible refine w_eq (dMin_ev _ _ _) ?_
  | with_reducible refine w_eq (dAbs_ev _ _) ?_
  | with_reducible refine w_not ?_
  | with_reducible refine w_and ?_
  | with_reducible refine w_or ?_
  | with_reducible refine br_n ?_
  | with_reducible refine br_tt ?_
  | with_reducible refine br_ff ?_)
local macro_rules | `(tactic| walk_at "w") => `(tactic| first
  | ((with_reducible refine w_fdiv ?_ ?_); (first | assumption | decide | omega))
  | ((with_reducible refine w_mulS ?_ ?_); (first | decide | omega))
  | ((with_reducible refine w_addS ?_ ?_); (first | assumption | decide | omega))
  | ((with_reducible refine w_lenS ?_ ?_); (first | assumption | decide | omega))
  | ((with_reducible refine w_slS ?_ ?_); (first | assumption | decide | omega))
  | with_reducible refine w_eq (dLen_tup _ _) ?_
  | with_reducible refine w_eq (dSl_tup _ _ _ _) ?_
  | with_reducible refine w_eq (dMax_ev _ _ _) ?_)
local macro_rules | `(tactic| walk_at "w") => `(tactic| first
  | with_reducible refine w_eq (dEq_int _ _ _) ?_
  | with_reducible refine w_eq (dEq_str _ _ _) ?_
  | with_reducible refine w_eq (dLt_int _ _ _) ?_
  | with_reducible refine w_eq (dLe_int _ _ _) ?_
  | with_reducible refine w_eq (dGt_int _ _ _) ?_
  | with_reducible refine w_eq (dGe_int _ _ _) ?_
  | with_reducible refine w_eq (dNe_int _ _ _) ?_
  | ((with_reducible refine w_mod ?_ ?_); (first | assumption | decide | omega)))
local macro_rules | `(tactic| walk_at "w") => `(tactic| first
  | with_reducible refine w_if ?_
  | with_reducible refine w_B ?_
  | with_reducible refine w_unB ?_
  | with_reducible refine w_ret ?_
  | with_reducible refine w_drop ?_
  | with_reducible refine w_skip ?_
  | with_reducible refine w_eq (dAdd_int _ _ _) ?_
  | with_reducible refine w_eq (dSub_int _ _ _) ?_)
local macro_rules | `(tactic| walk_at "w") => `(tactic| first
  | with_reducible refine w_seq ?_
  | with_reducible refine w_asg ?_
  | with_reducible refine w_cons ?_
  | with_reducible refine w_nil ?_
  | with_reducible refine w_c ?_
  | ((with_reducible refine w_var (d := ?_) ?_ ?_); rotate_left; rfl)
  | with_reducible refine w_bin ?_
  | with_reducible refine w_call ?_)
local macro_rules | `(tactic| walk_at "go") => `(tactic| (repeat (walk_at "w")); try dsimp only [List.set])
local macro_rules | `(tactic| walk_at "fn") => `(tactic| ((refine w_fun ?_); simp only [startD, List.map_cons, List.map_nil, List.reduceReplicate, Nat.reduceSub, List.cons_append, List.nil_append]; walk_at "go"))
theorem InL.ints {m : Int} : ∀ {l : List D}, InL m l → ∃ zs : List Int, l = zs.map .int ∧ ∀ z ∈ zs, 0 ≤ z ∧ z < m
  | [], _ => ⟨[], rfl, fun z hz => by simp at hz⟩
  | d :: l, h => by
    obtain ⟨v, rfl, hv⟩ := h d List.mem_cons_self
    obtain ⟨zs, rfl, hz⟩ := InL.ints (l := l) fun e he => h e (List.mem_cons_of_mem _ he)
    refine ⟨v :: zs, rfl, fun z hm => ?_⟩
    rcases List.mem_cons.mp hm with rfl | hm
    · exact hv
    · exact hz z hm
def startI (nl : List Str) (sv : List Int) (x : Str) : Int := match fidx x nl with
  | some j => sv.getD j 0
  | none => sv.getLastD 0
theorem getD_mem {l : List Int} {j : Nat} (h : j < l.length) : l.getD j 0 ∈ l := by
  rw [List.getD_eq_getElem?_getD, List.getElem?_eq_getElem h]
  exact List.getElem_mem h
theorem at_nat {l : List Int} {j : Nat} (h : j < l.length) : atI (l.map D.int) (j : Int) = some (.int (l.getD j 0)) := by
  refine atI_at ?_
  rw [List.getElem?_map, List.getD_eq_getElem?_getD, List.getElem?_eq_getElem h]
  rfl
def tAt (T : List D) (a b : Int) : Int := match T[a.toNat]? with
  | some (.tup l) => match l[b.toNat]? with
    | some (.int v) => v
    | _ => 0
  | _ => 0
/-- a machine's tables, plainly -/
structure Mc (nl : List Str) (sv : List Int) (T : List D) (m : Int) : Prop where
  ss : ∀ z ∈ sv, 0 ≤ z ∧ z < m
  sl : sv.length = nl.length + 1
  tl : (T.length : Int) = m
  ts : ∀ r ∈ T, ∃ l, r = .tup l ∧ (l.length : Int) = m ∧ InL m l
abbrev tabD (F0 : D) (nl : List Str) (sv : List Int) (T : List D) (K0 : D) : D := .tup [F0, .tup (nl.map .str), .tup (sv.map .int), .tup T, K0]
section
variable {F0 K0 : D} {nl : List Str} {sv : List Int} {T : List D} {m : Int} {h : MH}
/-! documents by their places -/
abbrev KC := List (Nat × List Nat)
def cellsK (kc : KC) : LL := kc.map fun p => (p.1, p.2.map fun (j : Nat) => D.int (j : Int))
def KOk (kc : KC) : Prop := ∀ (a : Nat) p, kc[a]? = some p → ∀ j ∈ p.2, a < j ∧ j < kc.length
def DAt (docs : List D) (kc : KC) (a : Nat) : Prop := ∃ (p : Nat × List Nat) (x : Str) (ds : List D), kc[a]? = some p ∧ docs[a]? = some (.tup [.str x, .tup ds]) ∧ Wd 20 x ∧ ds.length = p.2.length ∧ ∀ (t j : Nat), p.2[t]? = some j → ds[t]? = docs[j]?
def SAt (nl : List Str) (sv : List Int) (T : List D) (docs : List D) (kc : KC) (sl : List Int) (a : Nat) : Prop := ∀ p x ds, kc[a]? = some p → docs[a]? = some (.tup [.str x, .tup ds]) → sl.getD a 0 = (p.2.map fun j => sl.getD j 0).foldl (tAt T) (startI nl sv x)
end
/-! the drawn documents -/
theorem revRange_get {n k : Nat} {d : D} (h : (revRangeD 0 n)[k]? = some d) : k < n ∧ d = .int ((n - 1 - k : Nat) : Int) := by
  obtain ⟨h1, h2⟩ := revRangeD_get h
  refine ⟨h1, ?_⟩
  rw [h2]
  congr 1
  omega
theorem cellsK_at {h0 h : MH} {A : LL} {kc : KC} (o : Own h0 h (A ++ cellsK kc)) {a : Nat} {p : Nat × List Nat} (e : kc[a]? = some p) : (A ++ cellsK kc)[A.length + a]? = some (p.1, p.2.map fun (j : Nat) => D.int (j : Int)) := by
  rw [List.getElem?_append_right (by omega)]
  have : A.length + a - A.length = a := by omega
  rw [this, cellsK, List.getElem?_map, e]
  rfl
theorem cellsK_set {A : LL} {kc : KC} {a : Nat} {p : Nat × List Nat} : (A ++ cellsK kc).set (A.length + a) (p.1, p.2.map fun (j : Nat) => D.int (j : Int)) = A ++ cellsK (kc.set a p) := by
  rw [List.set_append_right _ _ (by omega)]
  have : A.length + a - A.length = a := by omega
  rw [this, cellsK, cellsK, List.map_set]
theorem kc_map_set {kc : KC} {a : Nat} {p : Nat × List Nat} (e : kc[a]? = some p) (q : List Nat) : ((kc.set a (p.1, q)).map fun p => D.ref p.1) = kc.map fun p => D.ref p.1 := by
  rw [List.map_set]
  refine set_self ?_
  rw [List.getElem?_map, e]
  rfl
theorem ixN_nat {n k : Nat} (h : k < n) : ixN n (k : Int) = some k := by
  unfold ixN
  rw [if_pos (by omega), if_pos (by omega)]
  simp
def KU (kc : KC) : Prop := (∀ (a b : Nat) (p q : Nat × List Nat) (j : Nat), kc[a]? = some p → kc[b]? = some q → j ∈ p.2 → j ∈ q.2 → a = b) ∧ ∀ p ∈ kc, p.2.Nodup
theorem kset_mem {kc : KC} {a k' b j : Nat} {p r : Nat × List Nat} (ep : kc[a]? = some p) (er : (kc.set a (p.1, p.2 ++ [k']))[b]? = some r) (hj : j ∈ r.2) : (b = a ∧ j = k') ∨ ∃ q, kc[b]? = some q ∧ j ∈ q.2 := by
  have hak := (List.getElem?_eq_some_iff.mp ep).1
  by_cases hab : a = b
  · subst hab
    rw [List.getElem?_set_self hak] at er
    cases er
    rcases List.mem_append.mp hj with hj | hj
    · exact .inr ⟨p, ep, hj⟩
    · exact .inl ⟨rfl, List.mem_singleton.mp hj⟩
  · rw [List.getElem?_set_ne hab] at er
    exact .inr ⟨r, er, hj⟩
theorem KU.app {kc : KC} (h : KU kc) {a k' : Nat} {p : Nat × List Nat} (ep : kc[a]? = some p) (hlt : ∀ q ∈ kc, ∀ j ∈ q.2, j < k') : KU (kc.set a (p.1, p.2 ++ [k'])) := by
  refine ⟨fun b1 b2 r1 r2 j e1 e2 h1 h2 => ?_, fun r hr => ?_⟩
  · rcases kset_mem ep e1 h1 with ⟨q1, q2⟩ | ⟨q1, q2, q3⟩ <;> rcases kset_mem ep e2 h2 with ⟨t1, t2⟩ | ⟨t1, t2, t3⟩
    · omega
    · have := hlt t1 (List.mem_of_getElem? t2) j t3; omega
    · have := hlt q1 (List.mem_of_getElem? q2) j q3; omega
    · exact h.1 _ _ _ _ j q2 t2 q3 t3
  · rcases List.mem_or_eq_of_mem_set hr with q | q
    · exact h.2 r q
    · rw [q]
      refine List.nodup_append.mpr ⟨h.2 p (List.mem_of_getElem? ep), by simp, fun x hx y hy => ?_⟩
      have := hlt p (List.mem_of_getElem? ep) x hx
      rw [List.mem_singleton.mp hy]
      omega
theorem DAt.keep {docs : List D} {kc : KC} (hk : KOk kc) {a b : Nat} {d : D} (hab : b < a) (h : DAt docs kc a) : DAt (docs.set b d) kc a := by
  obtain ⟨p, x, ds, e1, e2, hx, e3, e4⟩ := h
  refine ⟨p, x, ds, e1, by rw [List.getElem?_set_ne (by omega)]; exact e2, hx, e3, fun t j ej => ?_⟩
  have := hk a p e1 j (List.mem_of_getElem? ej)
  rw [List.getElem?_set_ne (by omega)]
  exact e4 t j ej
theorem c_free {cs : List Int} (hc : ∀ z ∈ cs, Cell z) (h1 : 1 ≤ cs.length) (h60 : cs.length ≤ 60) {h : MH} {iC ip : Nat} (gC : getL h iC = some (cs.map .int)) {pl : List D} (gP : getL h ip = some pl) (hpl : pl.length = 9) (hpw : Wds 20 pl) :
    Sat (m_free_docs_275c6 [.ref iC, .ref ip] h) (fun d h' => ∃ iD iK docs kc, d = .tup [.ref iD, .ref iK] ∧ Own h h' ([(iD, docs), (iK, kc.map fun p => D.ref p.1)] ++ cellsK kc) ∧ docs.length = cs.length ∧ kc.length = cs.length ∧ KOk kc ∧ (∀ p ∈ kc, p.2.length ≤ 60) ∧ KU kc ∧ ∀ a, a < kc.length → DAt docs kc a) noX := by
  walk_at "fn"
  refine w_ixL gC (at_nat (j := 0) (by omega)) ?_
  walk_at "go"
  have hw := mod_in (cs.getD 0 0) (n := 4) (by decide)
  generalize cs.getD 0 0 % 4 = way at hw
  walk_at "go"
  refine w_eq (iter1_ref _ _ _ gC) ?_
  dsimp only
  refine o_compS (σ := List Nat) (fun s => s.map fun i => (i, [])) (fun k acc s => acc = s.reverse.map .ref ∧ s.length = k) (s0 := []) (Own.nil h) ⟨rfl, rfl⟩ (by simp; omega) (fun c acc s h' o => decide_eq_true (o.getL gC)) ?_ ?_
  · rintro k d acc s c h' hd hk ⟨rfl, hs⟩ o
    refine ⟨_, rfl, ?_⟩
    dsimp only [wipeD, List.set]
    walk_at "go"
    refine o_new o (by simp) fun i h2 o2 => ?_
    exact ⟨i :: s, o2.perm (List.Perm.swap _ _ _), by simp, by simp [hs]⟩
  rintro acc s iK h2 hl ⟨rfl, hs⟩ o2
  rw [List.length_map] at hs
  replace o2 : Own h h2 ([(iK, (s.reverse.map fun i => (i, ([] : List Nat))).map fun p => D.ref p.1)] ++ cellsK (s.reverse.map fun i => (i, []))) := by
    have e : (s.reverse.map fun i => (i, ([] : List Nat))).map (fun p => D.ref p.1) = s.reverse.map .ref := by simp
    rw [e]
    refine o2.perm (List.Perm.cons _ ?_)
    have e2 : cellsK (s.reverse.map fun i => (i, [])) = (s.map fun i => (i, ([] : List D))).reverse := by unfold cellsK; simp
    rw [e2]
    exact (List.reverse_perm _).symm
  have hkc : (s.reverse.map fun i => (i, ([] : List Nat))).length = cs.length := by simp [hs]
  have hk0 : ∀ (a : Nat) p, (s.reverse.map fun i => (i, ([] : List Nat)))[a]? = some p → p.2 = [] := fun a p e => by
    obtain ⟨i, _, rfl⟩ := List.mem_map.mp (List.mem_of_getElem? e)
    rfl
  have er : (List.map D.ref s.reverse) = (s.reverse.map fun i => (i, ([] : List Nat))).map fun p => D.ref p.1 := by simp
  generalize (s.reverse.map fun i => (i, ([] : List Nat))) = kc0 at *
  walk_at "go"
  refine w_lenL (o2.getL gC) ?_
  walk_at "go"
  rw [List.length_map]
  refine w_dR2 (by omega) ?_
  clear hl er hs s
  refine w_loop0 (fun k ρ h' => ∃ kc o4 o6 o7, ρ = [some (.ref iC), some (.ref ip), some (.int way), some (.ref iK), o4, none, o6, o7, none] ∧ Own h h' ([(iK, kc.map fun p => D.ref p.1)] ++ cellsK kc) ∧ kc.length = cs.length ∧ (∀ p ∈ kc, p.2.length ≤ k) ∧ KOk kc ∧ KU kc ∧ ∀ p ∈ kc, ∀ j ∈ p.2, j < 1 + k) ⟨kc0, none, none, none, rfl, o2, hkc, fun p hp => by
      obtain ⟨a, e⟩ := List.getElem?_of_mem hp
      rw [hk0 a p e]
      exact Nat.zero_le _, fun a p e j hj => by rw [hk0 a p e] at hj; simp at hj, ⟨fun a b p q j e1 e2 h1 h2 => by rw [hk0 a p e1] at h1; simp at h1, fun p hp => by
      obtain ⟨a, e⟩ := List.getElem?_of_mem hp
      rw [hk0 a p e]
      exact List.nodup_nil⟩, fun p hp j hj => by
      obtain ⟨a, e⟩ := List.getElem?_of_mem hp
      rw [hk0 a p e] at hj
      simp at hj⟩ (fun _ _ _ _ => rfl) ?_ ?_
  · rintro k d ρ h' hd ⟨kc, o4, o6, o7, rfl, o, hkl, hKl, hK, hU, hlt⟩
    obtain ⟨hk, rfl⟩ := rangeD_get hd
    have hk1 : 1 + k < cs.length := by omega
    have ek : (1 : Int) + (k : Int) = ((1 + k : Nat) : Int) := by omega
    rw [ek]
    have hlt2 : 1 + (k + 1) = 1 + k + 1 := by omega
    rw [hlt2]
    generalize 1 + k = k' at *
    refine ⟨_, rfl, ?_⟩
    dsimp only [List.set]
    have hk'0 : 0 < k' := by omega
    have hmin : (0 : Int) < (if (3 : Int) < (k' : Int) then (3 : Int) else (k' : Int)) := by split <;> omega
    walk_at "go"
    refine w_ixL (o.getL gC) (at_nat hk1) ?_
    walk_at "go"
    refine w_mulB (a := 1048577) (b := 64) (Nat.le_succ_of_le (hc _ (getD_mem hk1))) (bits_small (by decide) (by decide)) (by decide) ?_
    walk_at "go"
    generalize cs.getD k' 0 * 16807 % 2147483629 / 5 = q
    refine o_new o (by simp) fun iZ h3 o3 => ?_
    walk_at "go"
    obtain ⟨a, ea, ha⟩ : ∃ a : Nat, atI [D.int (q % (k' : Int)), D.int ((k' : Int) - 1), D.int 0, D.int ((k' : Int) - 1 - q % (if (3 : Int) < (k' : Int) then (3 : Int) else (k' : Int)))] way = some (.int (a : Int)) ∧ a < k' := by
      have m1 := mod_in q (n := (k' : Int)) (by omega)
      have m2 := mod_in q hmin
      have m3 : (if (3 : Int) < (k' : Int) then (3 : Int) else (k' : Int)) ≤ k' := by split <;> omega
      generalize (if (3 : Int) < (k' : Int) then (3 : Int) else (k' : Int)) = w at *
      have key : way = 0 ∨ way = 1 ∨ way = 2 ∨ way = 3 := by omega
      rcases key with rfl | rfl | rfl | rfl
      · exact ⟨(q % (k' : Int)).toNat, by rw [Int.toNat_of_nonneg m1.1]; rfl, by omega⟩
      · exact ⟨((k' : Int) - 1).toNat, by rw [Int.toNat_of_nonneg (by omega)]; rfl, by omega⟩
      · exact ⟨0, rfl, by omega⟩
      · exact ⟨((k' : Int) - 1 - q % w).toNat, by rw [Int.toNat_of_nonneg (by omega)]; rfl, by omega⟩
    refine w_ixL (o3.atL 0 rfl) ea ?_
    walk_at "go"
    have hak : a < kc.length := by omega
    obtain ⟨p, ep⟩ : ∃ p, kc[a]? = some p := ⟨_, List.getElem?_eq_getElem hak⟩
    refine w_ixL (d := .ref p.1) (o3.atL 1 rfl) (atI_at (by rw [List.getElem?_map, ep]; rfl)) ?_
    have ec := cellsK_at (A := [(iZ, [D.int (q % (k' : Int)), D.int ((k' : Int) - 1), D.int 0, D.int ((k' : Int) - 1 - q % (if (3 : Int) < (k' : Int) then (3 : Int) else (k' : Int)))]), (iK, kc.map fun p => D.ref p.1)]) o3 ep
    refine ⟨o3.isL _ ec, ?_⟩
    walk_at "go"
    have hpk := hKl p (List.mem_of_getElem? ep)
    refine o_app o3 _ ec (by rw [List.length_map]; omega) fun h4 o4 => ?_
    have em : (p.2.map fun (j : Nat) => D.int (j : Int)) ++ [D.int (k' : Int)] = (p.2 ++ [k']).map fun (j : Nat) => D.int (j : Int) := by simp
    rw [em] at o4
    have o5 := (show Own h h4 ([(iZ, [D.int (q % (k' : Int)), D.int ((k' : Int) - 1), D.int 0, D.int ((k' : Int) - 1 - q % (if (3 : Int) < (k' : Int) then (3 : Int) else (k' : Int)))]), (iK, kc.map fun p => D.ref p.1)] ++ cellsK (kc.set a (p.1, p.2 ++ [k']))) by
      rw [← cellsK_set]
      exact o4).tail
    have o6 : Own h h4 ([(iK, (kc.set a (p.1, p.2 ++ [k'])).map fun p => D.ref p.1)] ++ cellsK (kc.set a (p.1, p.2 ++ [k']))) := by
      rw [kc_map_set ep (p.2 ++ [k'])]
      exact o5
    refine ⟨_, _, _, _, rfl, o6, by simp [hkl], fun r hr => ?_, fun b r er j hj => ?_, hU.app ep hlt, fun r hr j hj => ?_⟩
    · rcases List.mem_or_eq_of_mem_set hr with q | q
      · have := hKl r q; omega
      · rw [q]; simp; omega
    · rw [List.length_set]
      rcases kset_mem ep er hj with ⟨q1, q2⟩ | ⟨q1, q2, q3⟩
      · omega
      · exact hK b q1 q2 j q3
    · obtain ⟨b, er⟩ := List.getElem?_of_mem hr
      rcases kset_mem ep er hj with ⟨_, q⟩ | ⟨q1, q2, q3⟩
      · omega
      · have := hlt q1 (List.mem_of_getElem? q2) j q3; omega
  · rintro ρ h' ⟨kc, o4, o6, o7, rfl, o, hkl, hKl, hK, hU, _⟩
    have hK60 : ∀ p ∈ kc, p.2.length ≤ 60 := fun p hp => by
      have := hKl p hp
      rw [rangeD_length] at this
      omega
    walk_at "go"
    refine w_eq (iter1_ref _ _ _ (o.getL gC)) ?_
    dsimp only
    refine o_comp (fun _ y => True) o (by simp; omega) (fun h' p => decide_eq_true (pre_getL p (o.getL gC))) ?_ ?_
    · intro k d h' hd _
      refine ⟨_, rfl, ?_⟩
      walk_at "go"
      exact ⟨rfl, trivial⟩
    intro docs0 hd0 _ iD h3 o3
    rw [List.length_map] at hd0
    walk_at "go"
    refine w_lenL (o3.getL gC) ?_
    rw [List.length_map]
    walk_at "go"
    rw [Int.toNat_natCast]
    refine w_loop0 (fun t ρ h' => ∃ docs o4, ρ = [some (.ref iC), some (.ref ip), some (.int way), some (.ref iK), o4, some (.ref iD), o6, o7, none] ∧ Own h h' ([(iD, docs), (iK, kc.map fun p => D.ref p.1)] ++ cellsK kc) ∧ docs.length = cs.length ∧ ∀ a, cs.length - t ≤ a → a < cs.length → DAt docs kc a) ⟨docs0, o4, rfl, o3, hd0, fun a h1 h2 => by omega⟩ (fun _ _ _ _ => rfl) ?_ ?_
    · rintro t d ρ h' hd ⟨docs, o4, rfl, o, hdl, hD⟩
      obtain ⟨ht, rfl⟩ := revRange_get hd
      refine ⟨_, rfl, ?_⟩
      have hal : cs.length - 1 - t < cs.length := by omega
      have hD' : ∀ b, cs.length - 1 - t < b → b < cs.length → DAt docs kc b := fun b h1 h2 => hD b (by omega) h2
      have hlow : cs.length - (t + 1) = cs.length - 1 - t := by omega
      rw [hlow]
      generalize cs.length - 1 - t = a at *
      obtain ⟨p, ep⟩ : ∃ p, kc[a]? = some p := ⟨_, List.getElem?_eq_getElem (by omega)⟩
      have hjs := hK a p ep
      dsimp only [List.set]
      walk_at "go"
      refine w_ixL (o.getL gC) (at_nat hal) ?_
      walk_at "go"
      have m9 := mod_in (cs.getD a 0 / 4) (n := 9) (by decide)
      obtain ⟨d, e1, e2⟩ := atI_in (l := pl) m9.1 (by omega)
      obtain ⟨x, rfl, hx⟩ := hpw.get (List.mem_of_getElem? e2)
      refine w_ixL (o.getL gP) e1 ?_
      walk_at "go"
      refine w_ixL (d := .ref p.1) (o.atL 1 rfl) (atI_at (by rw [List.getElem?_map, ep]; rfl)) ?_
      have ec := cellsK_at (A := [(iD, docs), (iK, kc.map fun p => D.ref p.1)]) o ep
      refine w_eq (iter1_ref _ _ _ (o.atL _ ec)) ?_
      dsimp only
      refine o_comp (fun t y => ∃ j : Nat, p.2[t]? = some j ∧ docs[j]? = some y) o (by have := hK60 p (List.mem_of_getElem? ep); rw [List.length_map]; omega) (fun h' q => decide_eq_true (pre_getL q (o.atL _ ec))) ?_ ?_
      · intro k d h'' hd q
        rw [List.getElem?_map, Option.map_eq_some_iff] at hd
        obtain ⟨j, ej, rfl⟩ := hd
        refine ⟨_, rfl, ?_⟩
        dsimp only [wipeD, List.set]
        walk_at "go"
        have hj := hjs j (List.mem_of_getElem? ej)
        have e3 := List.getElem?_eq_getElem (l := docs) (i := j) (by omega)
        exact w_ixL (pre_getL q (o.atL 0 rfl)) (atI_at e3) ⟨rfl, j, ej, e3⟩
      intro ys hy hp iX h4 o4
      rw [List.length_map] at hy
      walk_at "go"
      refine w_tupL (o4.atL 0 rfl) ?_
      walk_at "go"
      refine o_set (m := a) o4 1 rfl (ixN_nat (by omega)) fun h5 o5 => ?_
      refine ⟨docs.set a (.tup [.str x, .tup ys]), _, rfl, o5.tail, by simp [hdl], fun b hb1 hb2 => ?_⟩
      by_cases hab : b = a
      · subst hab
        refine ⟨p, x, ys, ep, by rw [List.getElem?_set_self (by omega)], hx, hy, fun t j ej => ?_⟩
        have hj := hjs j (List.mem_of_getElem? ej)
        rw [List.getElem?_set_ne (by omega)]
        have htl : t < ys.length := by
          have := (List.getElem?_eq_some_iff.mp ej).1
          omega
        obtain ⟨j', e5, e6⟩ := hp t _ (List.getElem?_eq_getElem htl)
        rw [ej] at e5
        cases e5
        rw [e6, List.getElem?_eq_getElem htl]
      · exact (hD' b (by omega) hb2).keep hK (by omega)
    · rintro ρ h' ⟨docs, o4, rfl, o, hdl, hD⟩
      walk_at "go"
      refine ⟨iD, iK, docs, kc, rfl, o, hdl, hkl, hK, hK60, hU, fun a ha => hD a ?_ (by omega)⟩
      simp
theorem SAt.keep {nl : List Str} {sv : List Int} {T docs : List D} {kc : KC} {sl : List Int} (hk : KOk kc) {a b : Nat} {v : Int} (hab : b < a) (h : SAt nl sv T docs kc sl a) : SAt nl sv T docs kc (sl.set b v) a := by
  intro p x ds e1 e2
  have := h p x ds e1 e2
  have gd : ∀ j, b < j → (sl.set b v).getD j 0 = sl.getD j 0 := fun j hj => by
    rw [List.getD_eq_getElem?_getD, List.getD_eq_getElem?_getD, List.getElem?_set_ne (by omega)]
  rw [gd a hab, this]
  congr 1
  refine List.map_congr_left fun j hj => (gd j ?_).symm
  have := hk a p e1 j hj
  omega
theorem Mach.mc {F N S T K : List D} {m : Int} (h : Mach F N S T K m) : ∃ nl sv, N = nl.map .str ∧ S = sv.map .int ∧ Mc nl sv T m := by
  obtain ⟨nl, rfl, _⟩ := h.ns
  obtain ⟨sv, rfl, hs⟩ := h.ss.ints
  exact ⟨nl, sv, rfl, rfl, hs, by simpa using h.sl, h.tl, h.ts⟩
end Mi
namespace Mi
open PySem L2
local macro_rules | `(tactic| walk_at "gl") => `(tactic| first
  | assumption
  | (refine Own.atL (h0 := ?_) (L := ?_) ?_ 0 ?_; rotate_left; rotate_left; assumption; rfl)
  | (refine Own.atL (h0 := ?_) (L := ?_) ?_ 1 ?_; rotate_left; rotate_left; assumption; rfl)
  | (refine Own.atL (h0 := ?_) (L := ?_) ?_ 2 ?_; rotate_left; rotate_left; assumption; rfl)
  | (refine Own.atL (h0 := ?_) (L := ?_) ?_ 3 ?_; rotate_left; rotate_left; assumption; rfl)
  | (refine Own.atL (h0 := ?_) (L := ?_) ?_ 4 ?_; rotate_left; rotate_left; assumption; rfl)
  | (refine Own.atL (h0 := ?_) (L := ?_) ?_ 5 ?_; rotate_left; rotate_left; assumption; rfl)
  | (refine Own.atL (h0 := ?_) (L := ?_) ?_ 6 ?_; rotate_left; rotate_left; assumption; rfl)
  | (refine Own.atL (h0 := ?_) (L := ?_) ?_ 7 ?_; rotate_left; rotate_left; assumption; rfl)
  | (refine Own.atL (h0 := ?_) (L := ?_) ?_ 8 ?_; rotate_left; rotate_left; assumption; rfl)
  | (refine Own.atL (h0 := ?_) (L := ?_) ?_ 9 ?_; rotate_left; rotate_left; assumption; rfl)
  | (refine Own.getL (h0 := ?_) (L := ?_) ?_ ?_; rotate_left; rotate_left; assumption; assumption))
local macro_rules | `(tactic| walk_at "il") => `(tactic| first
  | (refine Own.isL (h0 := ?_) (L := ?_) (l := ?_) ?_ 0 ?_; rotate_left; rotate_left; rotate_left; assumption; rfl)
  | (refine Own.isL (h0 := ?_) (L := ?_) (l := ?_) ?_ 1 ?_; rotate_left; rotate_left; rotate_left; assumption; rfl)
  | (refine Own.isL (h0 := ?_) (L := ?_) (l := ?_) ?_ 2 ?_; rotate_left; rotate_left; rotate_left; assumption; rfl)
  | (refine Own.isL (h0 := ?_) (L := ?_) (l := ?_) ?_ 3 ?_; rotate_left; rotate_left; rotate_left; assumption; rfl)
  | (refine Own.isL (h0 := ?_) (L := ?_) (l := ?_) ?_ 4 ?_; rotate_left; rotate_left; rotate_left; assumption; rfl)
  | (refine Own.isL (h0 := ?_) (L := ?_) (l := ?_) ?_ 5 ?_; rotate_left; rotate_left; rotate_left; assumption; rfl)
  | (refine Own.isL (h0 := ?_) (L := ?_) (l := ?_) ?_ 6 ?_; rotate_left; rotate_left; rotate_left; assumption; rfl)
  | (refine Own.isL (h0 := ?_) (L := ?_) (l := ?_) ?_ 7 ?_; rotate_left; rotate_left; rotate_left; assumption; rfl)
  | (refine Own.isL (h0 := ?_) (L := ?_) (l := ?_) ?_ 8 ?_; rotate_left; rotate_left; rotate_left; assumption; rfl)
  | (refine Own.isL (h0 := ?_) (L := ?_) (l := ?_) ?_ 9 ?_; rotate_left; rotate_left; rotate_left; assumption; rfl))
local macro_rules | `(tactic| walk_at "bd") => `(tactic| first | assumption | omega | (simp; done) | (simp; omega) | (simp [*]; done) | (simp [*]; omega))
local macro_rules | `(tactic| walk_at "w") => `(tactic| first
  | ((with_reducible refine w_xfK ?_ ?_ ?_); (exact List.mem_cons_self); (decide))
  | with_reducible refine w_eq (isN_xo _) ?_
  | with_reducible refine w_eq (dNeg_int _ _) ?_)
local macro_rules | `(tactic| walk_at "w") => `(tactic| first
  | ((with_reducible refine w_addT ?_ ?_); walk_at "bd")
  | ((with_reducible refine ⟨?_, ?_⟩); (with_reducible (show isListD (.ref _) _ = true)); walk_at "il")
  | with_reducible refine w_tryK ?_
  | with_reducible refine w_raise ?_
  | with_reducible refine w_raise0 ?_
  | with_reducible refine w_isX ?_
  | ((with_reducible refine w_isXK (k := ?_) ?_ ?_); rotate_left; (first | with_reducible exact lkA | (apply lkB; decide +kernel; exact lkA) | (apply lkB; decide +kernel; apply lkB; decide +kernel; exact lkA) | (apply lkB; decide +kernel; apply lkB; decide +kernel; apply lkB; decide +kernel; exact lkA)))
  | with_reducible refine w_xf ?_)
local macro_rules | `(tactic| walk_at "w") => `(tactic| first
  | with_reducible refine w_eq (isi_bool_int _ _) ?_
  | with_reducible refine w_eq (isi_str_int _ _) ?_
  | ((with_reducible refine w_lenLm (α := ?_) (f := ?_) (l := ?_) ?_ ?_); rotate_left; rotate_left; rotate_left; walk_at "gl")
  | ((with_reducible refine w_lenL (l := ?_) ?_ ?_); rotate_left; walk_at "gl")
  | ((with_reducible refine w_iterL (l := ?_) ?_ ?_); rotate_left; walk_at "gl"; dsimp only)
  | ((with_reducible refine w_tupL (l := ?_) ?_ ?_); rotate_left; walk_at "gl")
  | ((with_reducible refine w_ixT (d := ?_) ?_ ?_); rotate_left; (first | with_reducible assumption | rfl))
  | ((with_reducible refine w_ixL (l := ?_) (d := ?_) ?_ ?_ ?_); rotate_left; rotate_left; walk_at "gl"; (first | with_reducible assumption | rfl)))
local macro_rules | `(tactic| walk_at "w") => `(tactic| first
  | with_reducible refine w_chK ?_
  | with_reducible refine w_retN ?_
  | with_reducible refine w_brk ?_
  | with_reducible refine w_cont ?_
  | with_reducible refine w_asgT ?_
  | with_reducible refine w_eq (isi_str_str _ _) ?_
  | with_reducible refine w_eq (isi_int_int _ _) ?_
  | with_reducible refine w_eq (isi_tup_tup _ _) ?_)
local macro_rules | `(tactic| walk_at "w") => `(tactic| first
  | with_reducible refine w_revL ?_
  | with_reducible refine w_listRg1 ?_
  | with_reducible refine w_tindex ?_
  | with_reducible refine w_setIx ?_
  | with_reducible refine w_un ?_
  | with_reducible refine w_rev1 ?_
  | with_reducible refine w_rev2 ?_
  | with_reducible refine w_chain ?_)
local macro_rules | `(tactic| walk_at "w") => `(tactic| first
  | with_reducible refine w_zip ?_
  | with_reducible refine w_ifE ?_
  | with_reducible refine w_andV ?_
  | with_reducible refine w_orV ?_
  | with_reducible refine w_notV ?_
  | with_reducible refine w_andK ?_
  | with_reducible refine w_orK ?_
  | with_reducible refine w_notK ?_)
local macro_rules | `(tactic| walk_at "w") => `(tactic| first
  | with_reducible refine w_eq (iter1_tup _ _) ?_
  | with_reducible refine w_eq (iter1_str _ _) ?_
  | with_reducible refine w_sl ?_
  | with_reducible refine w_no ?_
  | with_reducible refine w_some ?_
  | with_reducible refine w_unI ?_
  | with_reducible refine w_meth ?_
  | with_reducible refine w_isi ?_)
local macro_rules | `(tactic| walk_at "w") => `(tactic| first
  | with_reducible refine w_lst ?_
  | with_reducible refine w_lc ?_
  | with_reducible refine w_for ?_
  | with_reducible refine w_range1 ?_
  | with_reducible refine w_range2 ?_
  | ((with_reducible refine w_dR1 ?_ ?_); (first | decide | omega))
  | ((with_reducible refine w_dR2 ?_ ?_); (first | decide | omega))
  | with_reducible refine w_iter ?_)
local macro_rules | `(tactic| walk_at "w") => `(tactic| first
  | with_reducible refine w_or ?_
  | with_reducible refine br_n ?_
  | with_reducible refine br_tt ?_
  | with_reducible refine br_ff ?_
  | ((with_reducible refine br_dt ?_ ?_); (first | assumption | omega | rfl))
  | ((with_reducible refine br_df ?_ ?_); (first | assumption | omega))
  | with_reducible refine w_tup ?_
  | ((with_reducible refine w_toTup ?_ ?_); exact (by simp)))
local macro_rules | `(tactic| walk_at "w") => `(tactic| first
  | with_reducible refine w_lenTm ?_
  | with_reducible refine w_eq (dLen_tup _ _) ?_
  | with_reducible refine w_eq (dSl_tup _ _ _ _) ?_
  | with_reducible refine w_eq (dMax_ev _ _ _) ?_
  | with_reducible refine w_eq (dMin_ev _ _ _) ?_
  | with_reducible refine w_eq (dAbs_ev _ _) ?_
  | with_reducible refine w_not ?_
  | with_reducible refine w_and ?_)
local macro_rules | `(tactic| walk_at "w") => `(tactic| first
  | with_reducible refine w_eq (dGe_int _ _ _) ?_
  | with_reducible refine w_eq (dNe_int _ _ _) ?_
  | ((with_reducible refine w_mod ?_ ?_); (first | assumption | decide | omega))
  | ((with_reducible refine w_fdiv ?_ ?_); (first | assumption | decide | omega))
  | ((with_reducible refine w_mulS ?_ ?_); (first | decide | omega))
  | ((with_reducible refine w_addS ?_ ?_); (first | assumption | decide | omega))
  | ((with_reducible refine w_lenS ?_ ?_); (first | assumption | decide | omega))
  | ((with_reducible refine w_slS ?_ ?_); (first | assumption | decide | omega)))
local macro_rules | `(tactic| walk_at "w") => `(tactic| first
  | with_reducible refine w_eq (dEq_int _ _ _) ?_
  | with_reducible refine w_eq (dEq_str _ _ _) ?_
  | with_reducible refine w_eq (dNe_strs _ _ _) ?_
  | with_reducible refine w_eq (dEq_bls _ _ _) ?_
  | with_reducible refine w_eq (dNe_bls _ _ _) ?_
  | with_reducible refine w_eq (dLt_int _ _ _) ?_
  | with_reducible refine w_eq (dLe_int _ _ _) ?_
  | with_reducible refine w_eq (dGt_int _ _ _) ?_)
local macro_rules | `(tactic| walk_at "w") => `(tactic| first
  | with_reducible refine w_if ?_
  | with_reducible refine w_B ?_
  | with_reducible refine w_unB ?_
  | with_reducible refine w_ret ?_
  | with_reducible refine w_drop ?_
  | with_reducible refine w_skip ?_
  | with_reducible refine w_eq (dAdd_int _ _ _) ?_
  | with_reducible refine w_eq (dSub_int _ _ _) ?_)
local macro_rules | `(tactic| walk_at "w") => `(tactic| first
  | with_reducible refine w_seq ?_
  | with_reducible refine w_asg ?_
  | with_reducible refine w_cons ?_
  | with_reducible refine w_nil ?_
  | with_reducible refine w_c ?_
  | ((with_reducible refine w_var (d := ?_) ?_ ?_); rotate_left; rfl)
  | with_reducible refine w_bin ?_
  | with_reducible refine w_call ?_)
local macro_rules | `(tactic| walk_at "go") => `(tactic| (repeat (walk_at "w")); try dsimp only [List.set])
local macro_rules | `(tactic| walk_at "fn") => `(tactic| ((refine w_fun ?_); simp only [startD, List.map_cons, List.map_nil, List.reduceReplicate, Nat.reduceSub, List.cons_append, List.nil_append]; walk_at "go"))
section
open PySem L2

local macro_rules | `(tactic| walk_at "w") => `(tactic| first
  | with_reducible refine w_eq (notN_non7 _) ?_
  | with_reducible refine w_eq (notN_ref7 _ _) ?_)
theorem notN_non7 (h : MH) : dNotN .non .non h = .ok (.bl false) h := by rw [dNotN_ev]; rfl
theorem notN_ref7 (i : Nat) (h : MH) : dNotN (.ref i) .non h = .ok (.bl true) h := by rw [dNotN_ev]; rfl
structure DF (kc : KC) (f : Nat → Doc) (a : Nat) : Prop where
  ex : ∃ (p : Nat × List Nat) (x : Str), kc[a]? = some p ∧ OkS x ∧ f a = .mk x (p.2.map f)
theorem docs_fn {docs : List D} {kc : KC} (hk : KOk kc) (hd : ∀ a, a < kc.length → DAt docs kc a) : ∀ t : Nat, t ≤ kc.length → ∃ f : Nat → Doc, ∀ a, kc.length - t ≤ a → a < kc.length → docs[a]? = some (f a).toD ∧ DF kc f a
  | 0, _ => ⟨fun _ => .mk (Str.ofString "") [], fun a h1 h2 => by omega⟩
  | t + 1, ht => by
    obtain ⟨f, hf⟩ := docs_fn hk hd t (by omega)
    obtain ⟨m, hm⟩ : ∃ m, m = kc.length - (t + 1) := ⟨_, rfl⟩
    obtain ⟨p, x, ds, e1, e2, hx, e3, e4⟩ := hd m (by omega)
    have hkm := hk m p e1
    refine ⟨fun i => if i = m then .mk x (p.2.map f) else f i, fun a h1 h2 => ?_⟩
    have congr : ∀ (q : Nat × List Nat) (b : Nat), m ≤ b → kc[b]? = some q → q.2.map (fun i => if i = m then Doc.mk x (p.2.map f) else f i) = q.2.map f := fun q b hb eq => List.map_congr_left fun j hj => by
      have := (hk b q eq j hj).1
      rw [if_neg (by omega)]
    by_cases e : a = m
    · subst e
      have eds : ds = (p.2.map f).map Doc.toD := by
        refine List.ext_getElem? fun i => ?_
        rw [List.getElem?_map, List.getElem?_map]
        cases ej : p.2[i]? with
        | some j =>
          rw [e4 i j ej]
          have hj := hkm j (List.mem_of_getElem? ej)
          rw [(hf j (by omega) hj.2).1]
          rfl
        | none =>
          have := List.getElem?_eq_none_iff.mp ej
          rw [List.getElem?_eq_none_iff.mpr (by omega)]
          rfl
      refine ⟨?_, ⟨p, x, e1, hx.2, ?_⟩⟩
      · simp only [if_true]
        rw [e2, toD_mk, eds]
      · simp only [if_true]
        rw [congr p a (Nat.le_refl _) e1]
    · obtain ⟨h3, ⟨q, y, h4, h5, h6⟩⟩ := hf a (by omega) h2
      refine ⟨?_, ⟨q, y, h4, h5, ?_⟩⟩
      · simp only [if_neg e]
        exact h3
      · simp only [if_neg e]
        rw [congr q a (by omega) h4, h6]
theorem ht_le {kc : KC} {f : Nat → Doc} (hk : KOk kc) (hf : ∀ a, a < kc.length → DF kc f a) : ∀ (t a : Nat), kc.length ≤ a + t → a < kc.length → (f a).ht ≤ t
  | 0, a, h1, h2 => by omega
  | t + 1, a, h1, h2 => by
    obtain ⟨p, x, e1, _, e2⟩ := (hf a h2).ex
    rw [e2, Doc.ht]
    have : ∀ l : List Nat, (∀ j ∈ l, a < j ∧ j < kc.length) → Doc.hts (l.map f) ≤ t := fun l => by
      induction l with
      | nil => intro _; rw [List.map_nil, Doc.hts]; omega
      | cons j l ih =>
        intro h
        obtain ⟨h3, h4⟩ := h j List.mem_cons_self
        have h5 := ht_le hk hf t j (by omega) h4
        have h6 := ih fun i hi => h i (List.mem_cons_of_mem _ hi)
        rw [List.map_cons, Doc.hts]
        omega
    have := this p.2 (hk a p e1)
    omega
/-- documents and children in the heap -/
structure HK (h : MH) (iD iK : Nat) (kc : KC) (f : Nat → Doc) : Prop where
  gD : getL h iD = some ((List.range kc.length).map fun a => (f a).toD)
  gK : getL h iK = some (kc.map fun p => D.ref p.1)
  gp : ∀ (a : Nat) p, kc[a]? = some p → getL h p.1 = some (p.2.map fun (j : Nat) => D.int (j : Int))
theorem HK.ext {h h' : MH} {iD iK : Nat} {kc : KC} {f : Nat → Doc} (g : HK h iD iK kc f) (p : h <+: h') : HK h' iD iK kc f := ⟨pre_getL p g.gD, pre_getL p g.gK, fun a q e => pre_getL p (g.gp a q e)⟩
section
variable {rl : TRl} (hr : ROk rl 4) {kc : KC} {f : Nat → Doc} (hk : KOk kc) (hf : ∀ a, a < kc.length → DF kc f a) (hn : kc.length ≤ 60) (hkl : ∀ p ∈ kc, p.2.length ≤ 60)
include hr hk hf hn hkl
end
end
section
open PySem L2

local macro_rules | `(tactic| walk_at "w") => `(tactic| first
  | with_reducible refine w_eq (notN_non _) ?_
  | with_reducible refine w_eq (notN_int _ _) ?_
  | with_reducible refine w_eq (isN_non _) ?_
  | with_reducible refine w_eq (isN_int _ _) ?_)
theorem o_compT74 {h0 h : MH} {L : LL} {Q : D → MH → Prop} {E : XE} {gd : MH → Bool} {tg : MG} {tt : MT} {te : ME} {ρ : Slots} (I : Nat → List D → Prop) {items : List D} (o : Own h0 h L) (i0 : I 0 []) (hl : items.length ≤ 1000000)
    (hg : ∀ h', h <+: h' → gd h' = true)
    (hs : ∀ i d acc h', items[i]? = some d → I i acc → h <+: h' → ∃ ρ1, tg d ρ = some ρ1 ∧ Sat (tt ρ1 h') (fun b h1 => h' <+: h1 ∧ (b = false → I (i + 1) acc) ∧ (b = true → Sat (te ρ1 h1) (fun y h2 => h1 <+: h2 ∧ I (i + 1) (acc ++ [y])) noX)) noX)
    (hn : ∀ acc h', I items.length acc → Own h0 h' ((h.length, acc) :: L) → Q (.ref h.length) h') : Sat (lcGo gd tg tt te h.length ρ items (h ++ [.lst []])) Q E := by
  refine w_comp (fun k acc h' => I k acc ∧ Own h h' [(h.length, acc)]) (k := 0) ⟨i0, (Own.nil h).alloc []⟩ (by simp) (by simpa using hl) (fun i acc h' hi => hg _ hi.2.pre) ?_ ?_
  · rintro i d acc h' hd ⟨hI, ow⟩ hc
    rw [Nat.zero_add] at hI ⊢
    obtain ⟨ρ1, e1, s⟩ := hs i d acc h' hd hI ow.pre
    obtain ⟨b, h1, e2, p1, hf, ht⟩ := s.get
    have o1 := ow.ext p1
    refine ⟨ρ1, e1, b, h1, e2, fun z => ⟨o1.at 0 rfl, hf z, o1⟩, fun z => (ht z).mono ?_⟩
    rintro y h2 ⟨p2, hI2⟩
    have o2 := o1.ext p2
    exact ⟨o2.at 0 rfl, hI2, o2.setAt 0 rfl _⟩
  · rintro acc h' ⟨hI, ow⟩ hc
    rw [Nat.zero_add] at hI
    exact hn acc h' hI (o.trans ow)
theorem cutD_take74 (l : List D) (k : Nat) : cutD l none (some (k : Int)) = l.take k := by
  unfold cutD
  rw [HT.sIx_none, HT.sIx_nat, List.drop_zero, Nat.sub_zero]
  rcases Nat.lt_or_ge k l.length with z | z
  · rw [Nat.min_eq_left (Nat.le_of_lt z)]
  · rw [Nat.min_eq_right z, List.take_length, List.take_of_length_le z]
theorem leaf_g74 {x : Str} (hx : OkS x) : (Doc.mk x []).g74 400 := ⟨hx, by simp, trivial⟩
theorem free_g74 {kc : KC} {f : Nat → Doc} (hk : KOk kc) (hf : ∀ a, a < kc.length → DF kc f a) (hp : ∀ p ∈ kc, p.2.length ≤ 60) : ∀ (t a : Nat), kc.length ≤ a + t → a < kc.length → (f a).g74 400
  | 0, a, h1, h2 => by omega
  | t + 1, a, h1, h2 => by
    obtain ⟨p, x, e1, hx, e2⟩ := (hf a h2).ex
    rw [e2]
    have h60 := hp p (List.mem_of_getElem? e1)
    refine ⟨hx, by rw [List.length_map]; omega, gs_iff74.mpr fun d hd => ?_⟩
    obtain ⟨j, hj, rfl⟩ := List.mem_map.mp hd
    have := hk a p e1 j hj
    exact free_g74 hk hf hp t j (by omega) this.2
theorem chR_ok74 {f s : TRl} (hf : ROk f 8) (hs : ROk s 9) (hd : ¬ Due74 f s) : ROk (chR f s) 8 ∧ (chR f s).length ≤ 12 ∧ (chR f s).map (·.1) = (f ++ ad74 f s).map (·.1) := by
  have h12 : (f ++ ad74 f s).length ≤ 12 := by
    rcases Nat.lt_or_ge 12 (f ++ ad74 f s).length with z | z
    · exact absurd (.inl z) hd
    · exact z
  have hl : (chR f s).length ≤ 12 := by unfold chR; rw [List.length_map]; exact h12
  refine ⟨⟨by omega, fun p hp => ?_, fun p hp => ?_⟩, hl, ?_⟩
  · obtain ⟨q, hq, rfl⟩ := List.mem_map.mp hp
    rcases List.mem_append.mp hq with hq | hq
    · exact hf.nm q hq
    · exact (ad_its74 hs.nm hq).1
  · obtain ⟨q, hq, rfl⟩ := List.mem_map.mp hp
    have hnk : It.nks q.2 := by
      rcases List.mem_append.mp hq with hq | hq
      · exact rnk_of74 hf q hq
      · exact nks_iff74.mpr fun i hi => ok_nk74 ((ad_its74 hs.nm hq).2.2 i hi)
    have hz : ¬ (40 < It.czs s q.2 ∨ 8 < It.cds s q.2) := fun z => hd (.inr ⟨q, hq, z⟩)
    exact cs_ok74 (rnk_of74 hs) hnk (by omega) (by omega)
  · unfold chR
    rw [List.map_map]
    rfl
theorem due_iff74 {f s : TRl} (hs : ∀ p ∈ s, p.2.length ≤ 3 ∧ ∀ i ∈ p.2, i.lv 2) : Due74 f s ↔ 12 < (f ++ ad74 f s).length ∨ ∃ p ∈ f, 40 < It.czs s p.2 ∨ 8 < It.cds s p.2 := by
  constructor
  · rintro (z | ⟨p, hp, z⟩)
    · exact .inl z
    · rcases List.mem_append.mp hp with hp | hp
      · exact .inr ⟨p, hp, z⟩
      · have := ad_ok74 hs hp
        omega
  · rintro (z | ⟨p, hp, z⟩)
    · exact .inl z
    · exact .inr ⟨p, List.mem_append_left _ hp, z⟩
theorem bd74 : ∀ c ∈ (Str.ofString "bdfhjlnpr").cps.toList, c < 1114112 ∧ c ≠ 42 := by decide +kernel
theorem x74 : W4 1 (Str.ofString "x") := by unfold W4 Wd OkS; decide +kernel
theorem find74 (l : List Bool) : l.any id = true ↔ true ∈ l := by simp
def cR74 : MS :=
 (mSeq (mAsg 8 (mC .non))
 (mSeq (mAsg 9 (mC .non))
 (mSeq (mTryK [((Str.ofString "TooMany"), true)] 10 8 (mAsg 9 (mCall (m_chained_3458f) (mCons (mVar 3) (mCons (mVar 4) (mNil))))))
 (mSeq (mIf (mB (mVar 7))
 (mSeq (mIf (mOr (mNot (mB (mIsX [((Str.ofString "TooMany"), true)] (mVar 8)))) (mNot (mB (mIsX [((Str.ofString "TooMany"), true)] (mVar 8)))))
 (mRet (mC (.bl false)))
 (mSkip))
 (mRet (mNotV (mIsX [((Str.ofString "TooMany"), false)] (mVar 8)))))
 (mSkip))
 (mSeq (mIf (mOr (mB (mBin dNotN (mVar 8) (mC .non))) (mNot (mB (mCall (m_told_ok_bc759) (mCons (mVar 9) (mCons (mVar 5) (mNil)))))))
 (mRet (mC (.bl false)))
 (mSkip))
 (mSeq (mAsg 11 (mTup (mCons (mCall (m_plain_f8b51) (mCons (mBin dAdd (mVar 1) (mVar 2)) (mNil))) (mCons (mTup (mNil)) (mNil)))))
 (mSeq (mAsg 12 (mBin dAdd (mLc (mIter (mVar 5)) (mgName 16) (mYes) (mTup (mCons (mVar 16) (mCons (mTup (mCons (mVar 11) (mNil))) (mNil)))) [16]) (mLc (mIter (mVar 5)) (mgName 16) (mYes) (mTup (mCons (mVar 16) (mCons (mTup (mCons (mVar 11) (mCons (mVar 11) (mNil)))) (mNil)))) [16])))
 (mSeq (mAsg 13 (mLc (mRange1 (mCall dMax (mCons (mC (.int 1)) (mCons (mCall dMin (mCons (mC (.int 8)) (mCons (mBin dSub (mCall dLen (mCons (mVar 0) (mNil))) (mC (.int 22))) (mNil)))) (mNil))))) (mgName 15) (mYes) (mCall (m_cell_at_2c4cb) (mCons (mVar 0) (mCons (mBin dAdd (mC (.int 22)) (mVar 15)) (mNil)))) [15]))
 (mSeq (mDrop (mMeth isListD dExtend (mVar 12) (mCons (mBin dIx (mCall (m_free_docs_275c6) (mCons (mVar 13) (mCons (mBin dAdd (mSl (mVar 1) (mNo) (mSome (mC (.int 5)))) (mSl (mVar 2) (mNo) (mSome (mC (.int 4))))) (mNil)))) (mC (.int 0))) (mNil))))
 (mRet (mCall dAll (mCons (mLc (mIter (mVar 12)) (mgName 17) (mYes) (mCall (m_agree_cecf8) (mCons (mVar 3) (mCons (mVar 4) (mCons (mVar 9) (mCons (mVar 17) (mNil)))))) [17]) (mNil)))))))))))))
theorem docs74 {l : List Str} {g : Str → Doc} {h0 h : MH} {ys : List D} (hy : ys.length = (l.map D.str).length) (hp : ∀ (i : Nat) y, ys[i]? = some y → ∃ x, l[i]? = some x ∧ y = (g x).toD) : ys = (l.map g).map Doc.toD := by
  rw [List.length_map] at hy
  refine List.ext_getElem? fun j => ?_
  rcases Nat.lt_or_ge j l.length with z | z
  · have hj : j < ys.length := by omega
    obtain ⟨p, e1, e2⟩ := hp j ys[j] (List.getElem?_eq_getElem hj)
    rw [List.getElem?_eq_getElem hj, e2, List.getElem?_map, List.getElem?_map, e1]
    rfl
  · rw [List.getElem?_eq_none (by omega), List.getElem?_eq_none (by simpa using z)]
theorem w4_ok74 {l : List Str} {n : Nat} (h : ∀ x ∈ l, W4 n x) : Wds n (l.map D.str) := W4s.wd ⟨l, rfl, h⟩
theorem all_rep74 (n : Nat) : (List.replicate n true).all id = true := by
  rw [List.all_eq_true]
  intro x hx
  rw [(List.mem_replicate.mp hx).2]
  rfl
theorem tail74 {sc : List Int} (hn : sc.length ≤ 63) (hb' : ∀ z ∈ sc, Cell z) {f s : TRl} (hf : ROk f 8) (hs : ROk s 9) (hfl : f.length ≤ 8) (hlad : (ad74 f s).length ≤ 8) {h : MH} {iP jO iN iC : Nat} {nms on nm : List Str} (g0 : getL h 0 = some (sc.map D.int)) (cP : h[iP]? = some (.lst (nms.map .str))) (cO : h[jO]? = some (.lst (on.map .str))) (h9 : nms.length = 9) (honl : on.length = 9) (hnms : ∀ x ∈ nms, W4 20 x) (hon : ∀ x ∈ on, W4 20 x) (gN : getL h iN = some (nm.map .str)) (hnm : nm = (f ++ ad74 f s).map (·.1)) {b : Bool} (hb : b = true ↔ Due74 f s) :
    OS (cR74 [some (.ref 0), some (.ref iP), some (.ref jO), some (.tup (f.map rD)), some (.tup (s.map rD)), some (.ref iN), some (.ref iC), some (.bl b), none, none, none, none, none, none, none, none, none, none, none, none] h) (fun _ _ => False) (fun y _ => y = .bl true) (fun _ _ => False) (fun _ _ => False) (fun _ _ _ _ => False) := by
  have hNl : nm.length ≤ 16 := by rw [hnm]; simp; omega
  have hNm : ∀ x ∈ nm, NamOk x := fun x hx => by
    rw [hnm] at hx
    obtain ⟨p, hp, rfl⟩ := List.mem_map.mp hx
    rcases List.mem_append.mp hp with hp | hp
    · exact hf.nm p hp
    · exact (ad_its74 hs.nm hp).1
  unfold cR74
  walk_at "go"
  refine (cc_chained74 hf hs).monoE ?_ ?_
  rotate_left
  · rintro x fs h1 ⟨p1, due, rfl, rfl⟩
    have eb : b = true := hb.mpr due
    subst eb
    refine tryE_t lkA rfl ?_
    dsimp only [List.set]
    walk_at "go"
    rfl
  rintro y h1 ⟨p1, ndue, rfl⟩
  have eb : b = false := by
    cases b with
    | true => exact absurd (hb.mp rfl) ndue
    | false => rfl
  subst eb
  obtain ⟨ht, _, ech⟩ := chR_ok74 hf hs ndue
  walk_at "go"
  refine w_eq (notN_non7 _) ?_
  walk_at "go"
  refine (cc_toldok74 ht (by decide) (nm := nm) (by rw [hnm, ech]) (pre_getL p1 gN)).mono ?_
  rintro y h2 ⟨p2, rfl⟩
  have p02 := p1.trans p2
  have cP2 := pre_get p02 cP
  have cO2 := pre_get p02 cO
  walk_at "go"
  refine o_add (Own.nil h2) cP2 cO2 (by simp; omega) fun iA h3 o3 => ?_
  rw [← List.map_append] at o3
  walk_at "go"
  refine (k_plain74 (o3.atL 0 rfl)).mono ?_
  rintro y h4 ⟨p4, x0, rfl, hx0⟩
  have p04 := p02.trans (o3.pre.trans p4)
  have gN4 := pre_getL p04 gN
  have hlf : D.tup [.str x0, .tup []] = (Doc.mk x0 []).toD := by rw [toD_mk]; rfl
  walk_at "go"
  rw [hlf]
  refine o_comp (fun i y => ∃ x, nm[i]? = some x ∧ y = (Doc.mk x [.mk x0 []]).toD) (Own.nil h4) (by rw [List.length_map]; omega) (fun h' p => decide_eq_true (pre_getL p gN4)) ?_ ?_
  · intro k d h5 hd hp
    rw [List.getElem?_map, Option.map_eq_some_iff] at hd
    obtain ⟨x, ex, rfl⟩ := hd
    refine ⟨_, rfl, ?_⟩
    dsimp only [wipeD, List.set]
    walk_at "go"
    exact ⟨rfl, x, ex, by rw [toD_mk (x := x)]; rfl⟩
  intro ys hyl hys iB h5 o5
  have ey := docs74 (h0 := h) (h := h) (g := fun x => Doc.mk x [.mk x0 []]) hyl hys
  subst ey
  clear hyl hys
  have gN5 := pre_getL o5.pre gN4
  walk_at "go"
  refine o_comp (fun i y => ∃ x, nm[i]? = some x ∧ y = (Doc.mk x [.mk x0 [], .mk x0 []]).toD) o5 (by rw [List.length_map]; omega) (fun h' p => decide_eq_true (pre_getL p gN5)) ?_ ?_
  · intro k d h6 hd hp
    rw [List.getElem?_map, Option.map_eq_some_iff] at hd
    obtain ⟨x, ex, rfl⟩ := hd
    refine ⟨_, rfl, ?_⟩
    dsimp only [wipeD, List.set]
    walk_at "go"
    exact ⟨rfl, x, ex, by rw [toD_mk (x := x)]; rfl⟩
  intro ys hyl hys iB2 h6 o6
  have ey := docs74 (h0 := h) (h := h) (g := fun x => Doc.mk x [.mk x0 [], .mk x0 []]) hyl hys
  subst ey
  clear hyl hys
  walk_at "go"
  refine o_add o6 (o6.at 1 rfl) (o6.at 0 rfl) (by simp; omega) fun iD12 h7 o7 => ?_
  rw [← List.map_append] at o7
  have o7' := o7.head
  have hA : ∀ d ∈ nm.map (fun x => Doc.mk x [.mk x0 []]) ++ nm.map (fun x => Doc.mk x [.mk x0 [], .mk x0 []]), d.ht ≤ 8 ∧ d.g74 400 := fun d hd => by
    rcases List.mem_append.mp hd with hd | hd
    · obtain ⟨x, hx, rfl⟩ := List.mem_map.mp hd
      exact ⟨by simp [Doc.ht, Doc.hts], (hNm x hx).1, by simp, ⟨leaf_g74 hx0, trivial⟩⟩
    · obtain ⟨x, hx, rfl⟩ := List.mem_map.mp hd
      exact ⟨by simp [Doc.ht, Doc.hts], (hNm x hx).1, by simp, ⟨leaf_g74 hx0, leaf_g74 hx0, trivial⟩⟩
  have hAl : (nm.map (fun x => Doc.mk x [.mk x0 []]) ++ nm.map (fun x => Doc.mk x [.mk x0 [], .mk x0 []])).length ≤ 32 := by simp; omega
  generalize nm.map (fun x => Doc.mk x [.mk x0 []]) ++ nm.map (fun x => Doc.mk x [.mk x0 [], .mk x0 []]) = A at *
  have g07 := pre_getL (p04.trans o7'.pre) g0
  walk_at "go"
  refine o_comp (fun _ y => ∃ c, y = .int c ∧ Cell c) o7' (by rw [rangeD_length]; (repeat' split) <;> omega) (fun _ _ => rfl) ?_ ?_
  · intro k d h8 hd hp
    obtain ⟨hk, rfl⟩ := rangeD_get hd
    refine ⟨_, rfl, ?_⟩
    dsimp only [wipeD, List.set]
    walk_at "go"
    refine (c_cell_at hb' (pre_getL hp g07) (by omega)).mono ?_
    rintro d h9 ⟨rfl, c, rfl, hc⟩
    exact ⟨rfl, c, rfl, hc⟩
  intro ys hyl hys iC8 h8 o8
  obtain ⟨cs, rfl, hcs⟩ := ints_all hys
  rw [List.length_map, rangeD_length] at hyl
  have hcl : 1 ≤ cs.length ∧ cs.length ≤ 8 := by
    (repeat' split at hyl) <;> omega
  clear hyl hys
  have gP4 := getL_of (pre_get p04 cP)
  have gO4 := getL_of (pre_get p04 cO)
  walk_at "go"
  refine o_sl o8 (o8.getL gP4) fun iS h9' o9 => ?_
  have ec5 : cutD (nms.map D.str) none (some 5) = (nms.take 5).map D.str := by
    have := cutD_take74 (nms.map D.str) 5
    rw [← List.map_take] at this
    exact this
  rw [ec5] at o9
  walk_at "go"
  refine o_sl o9 (o9.getL gO4) fun iS2 h10 o10 => ?_
  have ec4 : cutD (on.map D.str) none (some 4) = (on.take 4).map D.str := by
    have := cutD_take74 (on.map D.str) 4
    rw [← List.map_take] at this
    exact this
  rw [ec4] at o10
  walk_at "go"
  refine o_add o10 (o10.at 1 rfl) (o10.at 0 rfl) (by simp; omega) fun iU h11 o11 => ?_
  rw [← List.map_append] at o11
  walk_at "go"
  refine (c_free hcs hcl.1 (by omega) (o11.atL 3 rfl) (o11.atL 0 rfl) (by simp; omega) (w4_ok74 fun x hx => by
    rcases List.mem_append.mp hx with hx | hx
    · exact hnms x (List.mem_of_mem_take hx)
    · exact hon x (List.mem_of_mem_take hx))).mono ?_
  rintro d h12 ⟨iD, iK, docs, kc, rfl, o12, hdl, hkl, hko, hk60, _, hda⟩
  obtain ⟨fd, hfd⟩ := docs_fn hko hda kc.length (Nat.le_refl _)
  rw [Nat.sub_self] at hfd
  have hfD : ∀ a, a < kc.length → DF kc fd a := fun a ha => (hfd a (Nat.zero_le _) ha).2
  have edocs : docs = ((List.range kc.length).map fd).map Doc.toD := by
    refine List.ext_getElem? fun j => ?_
    rcases Nat.lt_or_ge j kc.length with z | z
    · rw [(hfd j (Nat.zero_le _) z).1, List.getElem?_map, List.getElem?_map, List.getElem?_range z]; rfl
    · rw [List.getElem?_eq_none (by omega), List.getElem?_eq_none (by simpa using z)]
  have hB : ∀ d ∈ (List.range kc.length).map fd, d.ht ≤ 8 ∧ d.g74 400 := fun d hd => by
    obtain ⟨a, ha, rfl⟩ := List.mem_map.mp hd
    have ha := List.mem_range.mp ha
    exact ⟨ht_le hko hfD 8 a (by omega) ha, free_g74 hko hfD hk60 8 a (by omega) ha⟩
  have hBl : ((List.range kc.length).map fd).length ≤ 8 := by simp; omega
  have gB := o12.atL 0 rfl
  rw [edocs] at gB
  have o13 := (o11.ext o12.pre)
  generalize (List.range kc.length).map fd = Bd at *
  walk_at "go"
  have cB := o12.at 0 rfl
  rw [edocs] at cB
  refine o_ext7 o13 4 rfl cB (by simp; omega) fun h14 o14 => ?_
  dsimp only [List.set] at o14
  rw [← List.map_append] at o14
  have g14 := o14.atL 4 rfl
  have hAB : ∀ d ∈ A ++ Bd, d.ht ≤ 8 ∧ d.g74 400 := fun d hd => by
    rcases List.mem_append.mp hd with hd | hd
    · exact hA d hd
    · exact hB d hd
  have hABl : (A ++ Bd).length ≤ 40 := by rw [List.length_append]; omega
  clear o13 o12 o11 o10 o9 hfd hda hfD hA hB
  generalize A ++ Bd = C at *
  walk_at "go"
  refine o_compM74 (fun _ y _ => y = .bl true) (Own.nil h14) (by rw [List.length_map]; omega) (fun h' p => decide_eq_true (pre_getL p g14)) (fun _ _ _ _ _ z => z) ?_ ?_
  · rintro k y h' hy pr hlt
    rw [List.getElem?_map, Option.map_eq_some_iff] at hy
    obtain ⟨d, ed, rfl⟩ := hy
    obtain ⟨d1, d2⟩ := hAB d (List.mem_of_getElem? ed)
    refine ⟨_, rfl, ?_⟩
    dsimp only [wipeD, List.set]
    walk_at "go"
    exact cc_agree74 hf hs ht d1 d2
  · rintro ys h15 hy hp o15
    have ey : ys = (List.replicate ys.length true).map D.bl := by
      refine List.ext_getElem? fun j => ?_
      rw [List.map_replicate, List.getElem?_replicate]
      rcases Nat.lt_or_ge j ys.length with z | z
      · rw [if_pos z, List.getElem?_eq_getElem z, hp j _ (List.getElem?_eq_getElem z)]
      · rw [if_neg (by omega), List.getElem?_eq_none z]
    generalize ys.length = N at *
    subst ey
    walk_at "go"
    refine w_all (o15.atL 0 rfl) ?_
    rw [all_rep74]
theorem main_k74 : ∀ ns : List Int, ns.length ≤ 63 → (∀ z ∈ ns, Builtin.Int.intBits z ≤ 1048576) → ∃ h', m_law_d94d6 [.ref 0] [.rol (ns.map D.int)] = .ok (.bl true) h' := by
  intro sc hn hb
  suffices hh : Sat (m_law_d94d6 [.ref 0] [.rol (sc.map D.int)]) (fun d h' => d = .bl true) noX by
    obtain ⟨d, h', e, rfl⟩ := hh.get
    exact ⟨h', e⟩
  have hb' : ∀ z ∈ sc, Cell z := hb
  generalize hh0 : [MO.rol (sc.map D.int)] = h0
  have g0 : getL h0 0 = some (sc.map D.int) := by rw [← hh0]; rfl
  clear hh0
  walk_at "fn"
  refine (c_cell_at hb' g0 (by decide)).mono ?_
  rintro d h0 ⟨rfl, c0, rfl, hc0⟩
  walk_at "go"
  refine c_names4.mono ?_
  rintro d h1 ⟨iP, pl, rfl, o1, h9, nms, rfl, hnms⟩
  rw [List.length_map] at h9
  walk_at "go"
  refine o_comp (fun _ y => ∃ x, y = .str x ∧ W4 20 x) o1 (by decide +kernel) (fun _ _ => rfl) ?_ ?_
  · intro k d h2 hd hp
    rw [List.getElem?_map, Option.map_eq_some_iff] at hd
    obtain ⟨c, ec, rfl⟩ := hd
    obtain ⟨c1, c2⟩ := bd74 c (List.mem_of_getElem? ec)
    have hw : W4 1 ⟨#[c]⟩ := ⟨⟨Nat.le_refl _, fun z hz => by
      have : z = c := by simpa using hz
      rw [this]; exact c1⟩, fun hz => by
      have : (42 : Nat) = c := by simpa using hz
      exact c2 this.symm⟩
    refine ⟨_, rfl, ?_⟩
    dsimp only [wipeD, List.set]
    walk_at "go"
    refine w_addW4 hw x74 (by decide) fun q => ?_
    exact ⟨rfl, _, rfl, q.le (by decide)⟩
  intro ys hyl hys iO h2 o2
  obtain ⟨os, rfl, hos⟩ := strs_all4 hys
  have hosl : os.length = 9 := by
    rw [List.length_map, List.length_map] at hyl
    rw [hyl]; decide +kernel
  have g2 := o2.getL g0
  walk_at "go"
  refine o_new o2 (by simp) fun iL h3 o3 => ?_
  have g3 := o3.getL g0
  walk_at "go"
  refine (c_cell_at hb' g3 (by decide)).mono ?_
  rintro d h3' ⟨rfl, c20, rfl, hc20⟩
  have hm2 := mod_in c20 (n := 2) (by decide)
  obtain ⟨jO, on, ajO, cO, honl, hon⟩ : ∃ (jO : Nat) (on : List Str), atI [D.ref iP, D.ref iO] (c20 % 2) = some (.ref jO) ∧ h3'[jO]? = some (.lst (on.map .str)) ∧ on.length = 9 ∧ ∀ x ∈ on, W4 20 x := by
    rcases (by omega : c20 % 2 = 0 ∨ c20 % 2 = 1) with z | z
    · exact ⟨iP, nms, by rw [z]; exact atI_at (k := 0) rfl, o3.at 2 rfl, h9, hnms⟩
    · exact ⟨iO, os, by rw [z]; exact atI_at (k := 1) rfl, o3.at 1 rfl, hosl, hos⟩
  have cP := o3.at 2 rfl
  have gP := getL_of cP
  have gO := getL_of cO
  have p03 := o3.pre
  clear o1 o2 g2 hys hyl
  walk_at "go"
  refine (k_firsts74 hb' g3 hnms h9 gP).mono ?_
  rintro d h4 ⟨p4, f, rfl, hf, hfl⟩
  have g4 := pre_getL p4 g3
  have gP4 := pre_getL p4 gP
  have gO4 := pre_getL p4 gO
  walk_at "go"
  refine (cc_turner74 (by decide) (by decide) (by decide) hb' g4 hon honl gO4 List.prefix_rfl).mono ?_
  rintro d h5 ⟨p5, s, rfl, tr, hsl⟩
  have hs : ROk s 9 := tr_rok74 tr (by omega)
  have hsl8 : s.length ≤ 8 := by omega
  have hs3 : ∀ p ∈ s, p.2.length ≤ 3 ∧ ∀ i ∈ p.2, i.lv 2 := fun p hp => (tr p hp).2.2
  have g5 := pre_getL p5 g4
  have gP5 := pre_getL p5 gP4
  have gO5 := pre_getL p5 gO4
  have cP5 := pre_get (p4.trans p5) cP
  have cO5 := pre_get (p4.trans p5) cO
  have p05 := p03.trans (p4.trans p5)
  clear o3 g3 gP gO g4 gP4 gO4 p03 p4 p5
  walk_at "go"
  refine o_comp (fun i y => ∃ p, f[i]? = some p ∧ y = .str p.1) (Own.nil h5) (by rw [List.length_map]; omega) (fun _ _ => rfl) ?_ ?_
  · intro k d h6 hd hp
    rw [List.getElem?_map, Option.map_eq_some_iff] at hd
    obtain ⟨p, ep, rfl⟩ := hd
    refine ⟨_, rfl, ?_⟩
    unfold rD
    dsimp only [wipeD, List.set]
    walk_at "go"
    exact ⟨rfl, p, ep, rfl⟩
  intro ys hyl hys iA h6 o6
  have ey : ys = (f.map (·.1)).map D.str := by
    rw [List.length_map] at hyl
    refine List.ext_getElem? fun j => ?_
    rcases Nat.lt_or_ge j f.length with z | z
    · have hj : j < ys.length := by omega
      obtain ⟨p, e1, e2⟩ := hys j ys[j] (List.getElem?_eq_getElem hj)
      rw [List.getElem?_eq_getElem hj, e2, List.getElem?_map, List.getElem?_map, e1]
      rfl
    · rw [List.getElem?_eq_none (by omega), List.getElem?_eq_none (by simpa using z)]
  subst ey
  walk_at "go"
  refine o_compT74 (fun k acc => acc = ((ad74 f (s.take k)).map (·.1)).map D.str) o6 (by simp [ad74]) (by rw [List.length_map]; omega) (fun _ _ => rfl) ?_ ?_
  · rintro k d acc h7 hd rfl p7
    rw [List.getElem?_map, Option.map_eq_some_iff] at hd
    obtain ⟨⟨x, its⟩, ep, rfl⟩ := hd
    have hx := hs.nm _ (List.mem_of_getElem? ep)
    simp only at hx
    refine ⟨_, rfl, ?_⟩
    unfold rD
    dsimp only [wipeD, List.set]
    rw [take_s7 ep, ad_snoc74]
    walk_at "go"
    refine (cc_for hf.len).mono ?_
    rintro y h8 ⟨rfl, rfl⟩
    walk_at "go"
    cases e : look f x with
    | none =>
      refine w_eqK (eq_own hx.1) ?_
      walk_at "go"
      refine ⟨List.prefix_rfl, by simp, fun _ => ?_⟩
      walk_at "go"
      exact ⟨List.prefix_rfl, by simp⟩
    | some r =>
      refine w_eqK (eq_its (w := 8) (by decide) (hf.its _ (look_mem e)).2 (hf.nm _ (look_mem e))) ?_
      walk_at "go"
      exact ⟨List.prefix_rfl, fun _ => by simp, by simp⟩
  rintro acc h7 rfl o7
  rw [List.length_map, List.take_length] at o7
  have hlad : (ad74 f s).length ≤ 8 := by
    unfold ad74
    rw [List.length_map]
    exact Nat.le_trans (List.length_filter_le _ _) hsl8
  walk_at "go"
  refine o_add o7 (o7.at 1 rfl) (o7.at 0 rfl) (by simp; omega) fun iN h8 o8 => ?_
  rw [← List.map_append, ← List.map_append] at o8
  have gN8 := o8.atL 0 rfl
  have p58 := o8.pre
  clear o6 o7 o8
  walk_at "go"
  refine o_comp (fun i y => ∃ p, f[i]? = some p ∧ y = .tup [.int (It.czs s p.2), .int (It.cds s p.2)]) (Own.nil h8) (by rw [List.length_map]; omega) (fun _ _ => rfl) ?_ ?_
  · intro k d h9 hd hp
    rw [List.getElem?_map, Option.map_eq_some_iff] at hd
    obtain ⟨⟨x, its⟩, ep, rfl⟩ := hd
    refine ⟨_, rfl, ?_⟩
    unfold rD
    dsimp only [wipeD, List.set]
    walk_at "go"
    refine (cc_counts74 hs 100 8 its _ (by decide) (by decide) (hf.its _ (List.mem_of_getElem? ep)).2).mono ?_
    rintro y h10 ⟨rfl, rfl⟩
    exact ⟨rfl, _, ep, rfl⟩
  intro ys hyl hys iC h9 o9
  have ey : ys = f.map fun p => D.tup [.int (It.czs s p.2), .int (It.cds s p.2)] := by
    rw [List.length_map] at hyl
    refine List.ext_getElem? fun j => ?_
    rcases Nat.lt_or_ge j f.length with z | z
    · have hj : j < ys.length := by omega
      obtain ⟨p, e1, e2⟩ := hys j ys[j] (List.getElem?_eq_getElem hj)
      rw [List.getElem?_eq_getElem hj, e2, List.getElem?_map, e1]
      rfl
    · rw [List.getElem?_eq_none (by omega), List.getElem?_eq_none (by simpa using z)]
  subst ey
  clear hyl hys
  have gC9 := o9.atL 0 rfl
  have gN9 := pre_getL o9.pre gN8
  have hNl : ((f ++ ad74 f s).map (·.1)).length = (f ++ ad74 f s).length := by simp
  have hNl2 : (f ++ ad74 f s).length = f.length + (ad74 f s).length := by simp
  generalize hnm : (f ++ ad74 f s).map (·.1) = nm at *
  have tail : ∀ (b : Bool) (h' : MH), h9 <+: h' → (b = true ↔ Due74 f s) → OS (cR74 [some (.ref 0), some (.ref iP), some (.ref jO), some (.tup (f.map rD)), some (.tup (s.map rD)), some (.ref iN), some (.ref iC), some (.bl b), none, none, none, none, none, none, none, none, none, none, none, none] h') (fun _ _ => False) (fun y _ => y = .bl true) (fun _ _ => False) (fun _ _ => False) (fun _ _ _ _ => False) := fun b h' p9 hb => by
    have pz := p58.trans (o9.pre.trans p9)
    exact tail74 hn hb' hf hs hfl hlad (pre_getL pz g5) (pre_get pz cP5) (pre_get pz cO5) (by assumption) honl hnms hon (pre_getL p9 gN9) hnm.symm hb
  have fini : ∀ {o : Out} {N B C : SP} {E : SX}, OS o (fun _ _ => False) (fun y _ => y = .bl true) (fun _ _ => False) (fun _ _ => False) (fun _ _ _ _ => False) → OS o N (fun y _ => y = .bl true) B C E := fun x => x.mono (fun _ _ z => z.elim) (fun _ _ z => z) (fun _ _ z => z.elim) (fun _ _ z => z.elim) fun _ _ _ _ z => z.elim
  walk_at "go"
  refine br_d (fun q => ?_) (fun q => ?_)
  · exact fini (tail true h9 List.prefix_rfl ⟨fun _ => .inl (by omega), fun _ => rfl⟩)
  walk_at "go"
  refine o_comp (fun i y => ∃ p, f[i]? = some p ∧ y = .bl (decide (40 < It.czs s p.2 ∨ 8 < It.cds s p.2))) (Own.nil h9) (by rw [List.length_map]; omega) (fun h' p => decide_eq_true (pre_getL p gC9)) ?_ ?_
  · intro k d h10 hd hp
    rw [List.getElem?_map, Option.map_eq_some_iff] at hd
    obtain ⟨⟨x, its⟩, ep, rfl⟩ := hd
    refine ⟨_, rfl, ?_⟩
    dsimp only [wipeD, List.set]
    walk_at "go"
    refine br_d (fun q1 => ?_) (fun q1 => ?_)
    · walk_at "go"
      exact ⟨rfl, _, ep, by simp only; rw [decide_eq_true (Or.inl q1)]⟩
    · walk_at "go"
      exact ⟨rfl, _, ep, by simp only; congr 1; rw [Bool.eq_iff_iff]; simp; omega⟩
  intro ys hyl hys iX h10 o10
  have ey : ys = (f.map fun p => decide (40 < It.czs s p.2 ∨ 8 < It.cds s p.2)).map D.bl := by
    rw [List.length_map] at hyl
    refine List.ext_getElem? fun j => ?_
    rcases Nat.lt_or_ge j f.length with z | z
    · have hj : j < ys.length := by omega
      obtain ⟨p, e1, e2⟩ := hys j ys[j] (List.getElem?_eq_getElem hj)
      rw [List.getElem?_eq_getElem hj, e2, List.getElem?_map, List.getElem?_map, e1]
      rfl
    · rw [List.getElem?_eq_none (by omega), List.getElem?_eq_none (by simpa using z)]
  subst ey
  walk_at "go"
  refine w_any (o10.atL 0 rfl) ?_
  refine fini (tail _ h10 o10.pre ?_)
  rw [find74, due_iff74 hs3, List.mem_map]
  constructor
  · rintro ⟨p, hp, z⟩
    exact .inr ⟨p, hp, of_decide_eq_true z⟩
  · rintro (z | ⟨p, hp, z⟩)
    · omega
    · exact ⟨p, hp, decide_eq_true z⟩
end
end Mi


namespace Sk74
open PySem L2 Mi
def top (i : Nat) : Stmt := PySem.Challenge.pw_graftform_k74_two_turners_in_one.main.body.getD i (.Pass ⟨0, 0, 0, 0⟩)
/-- what the top leaves: names of built-ins that are not bound, constants -/
structure Txt (K : PySem.W.Frag) (mg : Str → Option Value) : Prop where
  b_ValueError : mg "ValueError" = none
  b_all : mg "all" = none
  b_any : mg "any" = none
  b_bool : mg "bool" = none
  b_int : mg "int" = none
  b_isinstance : mg "isinstance" = none
  b_len : mg "len" = none
  b_list : mg "list" = none
  b_max : mg "max" = none
  b_min : mg "min" = none
  b_range : mg "range" = none
  b_reversed : mg "reversed" = none
  b_str : mg "str" = none
  b_tuple : mg "tuple" = none
  b_zip : mg "zip" = none
  g_HOLE : ∃ t, mg "HOLE" = some (.str (Str.ofString "*") t)
  g_ITEMS : ∃ t, mg "ITEMS" = some (.int (40) t)
  g_NESTED : ∃ t, mg "NESTED" = some (.int (8) t)
  g_TURNS : ∃ t, mg "TURNS" = some (.int (12) t)
  ex_TooMany : ExT K mg "TooMany" [((Str.ofString "TooMany"), true)]
  is_GraftError : IsT K mg "GraftError" [((Str.ofString "TooMany"), true)]
  is_NoTurner_TooLarge : IsTs K mg [(Str.ofString "NoTurner"), (Str.ofString "TooLarge")] [((Str.ofString "TooMany"), false)]
  is_ValueError : IsB K "ValueError" [((Str.ofString "TooMany"), true)]
  r_TooMany : X0 K mg "TooMany"
section
variable {P : Program} {w : World} {K : PySem.W.Frag} {mg : Str → Option Value} {base : Heap}
theorem sc__law_names : FnScope ["_law_cell", "_law_letters", "_law_start", "_law_base", "_law_at", "_law_first", "_law_k"] ["_law_cell"] (defScope (top 24)) := ⟨rfl, rfl, rfl, by decide +kernel, rfl, by decide +kernel, by decide +kernel⟩
theorem sim__law_names (T : Txt K mg) (d : Df K mg "_law_names" (top 24) ["_law_cell"]) : Cal P w K mg base "_law_names" 1 (m_names_c11ae) := by
  exact cal_mk (k := 0) d sc__law_names fun f cdv A outer s H E hr => by
   have tk : Takes (cxOf (L2.CX P w) P w K mg base ["_law_cell", "_law_letters", "_law_start", "_law_base", "_law_at", "_law_first", "_law_k"] "_law_names" (defScope (top 24)) f cdv A outer s H E) (fun c d _ H' => E c d H') := takes_of rfl rfl rfl rfl
   have hu : (A.deeper (PyProof.Rows.envOfC "_law_names" (defScope (top 24)) s.heap.objs.size f cdv)).units + 65 < cLine := by have := hr.un; omega
   have hu2 : (A.deeper (PyProof.Rows.envOfC "_law_names" (defScope (top 24)) s.heap.objs.size f cdv)).units + 0 + 200 < cLine := by have := hr.un; omega
   have S := sc__law_names
   exact ss_cons (sx_set (i := 1) (se_str) S.nd)
      (ss_cons (sx_set (i := 2) (se_bin op_mod s2_mod (mv 0) (se_int)) S.nd)
      (ss_cons (sx_set (i := 3) (se_bm PySem.F.plainAttrs_str PySem.F.slot_str_join PySem.F.type_str_join mt_join sty_str sm_join (se_str) (sa_cons (se_lc (own := [("_law_k", 6)]) S.nd (si_range1 T.b_range (se_int)) (blkOk_by (N := ["_law_cell", "_law_letters", "_law_start", "_law_base", "_law_at", "_law_first", "_law_k"]) (sc := defScope (top 24)) (by decide +kernel)) (tg_name 6) (fun _ _ _ _ _ => pg_name (i := 6) S.nd rfl (by first | exact Or.inl rfl | exact Or.inr rfl)) (fun _ _ _ _ _ => st_nil) (fun _ _ _ _ _ => se_ix ix_seq s2_ix (mv 1) (se_bin op_mod s2_mod (se_bin op_addA s2_add (mv 2) (se_bin op_mulA s2_mul (se_int) (mv 6))) (se_int)) (fun _ _ => rfl))) (sa_nil))) S.nd)
      (ss_cons (sx_if (st_cmp (op_eqA (n := 0) hu2) s2_eq (se_bin op_mod s2_mod (se_bin op_fdivW s2_fdiv (mv 0) (se_int)) (se_int)) (se_int) (nomark _))
      (ss_cons (sx_set (i := 4) (se_bin op_mod s2_mod (se_bin op_fdivW s2_fdiv (mv 0) (se_int)) (se_int)) S.nd)
      (ss_cons (sx_set (i := 5) (se_bin op_mod s2_mod (se_bin op_fdivW s2_fdiv (mv 0) (se_int)) (se_int)) S.nd)
      (ss_one (sx_ret (se_lc (own := [("_law_k", 6)]) S.nd (si_range1 T.b_range (se_int)) (blkOk_by (N := ["_law_cell", "_law_letters", "_law_start", "_law_base", "_law_at", "_law_first", "_law_k"]) (sc := defScope (top 24)) (by decide +kernel)) (tg_name 6) (fun _ _ _ _ _ => pg_name (i := 6) S.nd rfl (by first | exact Or.inl rfl | exact Or.inr rfl)) (fun _ _ _ _ _ => st_nil) (fun _ _ _ _ _ => se_bin op_addA s2_add (se_bin op_addA s2_add (se_slice (mv 3) (sp_none) (sp_some (mv 4))) (se_ix ix_seq s2_ix (mv 1) (se_bin op_mod s2_mod (se_bin op_addA s2_add (mv 5) (mv 6)) (se_int)) (fun _ _ => rfl))) (se_slice (mv 3) (sp_some (se_bin op_addA s2_add (mv 4) (se_int))) (sp_none))))))))
      (ss_nil))
      (ss_cons (sx_if (st_cmp (op_eqA (n := 0) hu2) s2_eq (se_bin op_mod s2_mod (se_bin op_fdivW s2_fdiv (mv 0) (se_int)) (se_int)) (se_int) (nomark _))
      (ss_one (sx_ret (se_bin op_addA s2_add (se_lc (own := [("_law_k", 6)]) S.nd (si_range1 T.b_range (se_int)) (blkOk_by (N := ["_law_cell", "_law_letters", "_law_start", "_law_base", "_law_at", "_law_first", "_law_k"]) (sc := defScope (top 24)) (by decide +kernel)) (tg_name 6) (fun _ _ _ _ _ => pg_name (i := 6) S.nd rfl (by first | exact Or.inl rfl | exact Or.inr rfl)) (fun _ _ _ _ _ => st_nil) (fun _ _ _ _ _ => se_slice (mv 3) (sp_none) (sp_some (se_bin op_addA s2_add (mv 6) (se_int))))) (se_lst (sa_cons (se_slice (mv 3) (sp_some (se_int)) (sp_none)) (sa_nil))))))
      (ss_nil))
      (ss_one (sx_ret (se_lc (own := [("_law_k", 6)]) S.nd (si_range1 T.b_range (se_int)) (blkOk_by (N := ["_law_cell", "_law_letters", "_law_start", "_law_base", "_law_at", "_law_first", "_law_k"]) (sc := defScope (top 24)) (by decide +kernel)) (tg_name 6) (fun _ _ _ _ _ => pg_name (i := 6) S.nd rfl (by first | exact Or.inl rfl | exact Or.inr rfl)) (fun _ _ _ _ _ => st_nil) (fun _ _ _ _ _ => se_ix ix_seq s2_ix (mv 1) (se_bin op_mod s2_mod (se_bin op_addA s2_add (mv 2) (se_bin op_mulA s2_mul (se_int) (mv 6))) (se_int)) (fun _ _ => rfl)))))))))
theorem sc__law_cell_at : FnScope ["_law_script", "_law_k"] ["_law_script", "_law_k"] (defScope (top 20)) := ⟨rfl, rfl, rfl, by decide +kernel, rfl, by decide +kernel, by decide +kernel⟩
theorem sim__law_cell_at (T : Txt K mg) (d : Df K mg "_law_cell_at" (top 20) ["_law_script", "_law_k"]) : Cal P w K mg base "_law_cell_at" 1 (m_cell_at_2c4cb) := by
  exact cal_mk (k := 0) d sc__law_cell_at fun f cdv A outer s H E hr => by
   have tk : Takes (cxOf (L2.CX P w) P w K mg base ["_law_script", "_law_k"] "_law_cell_at" (defScope (top 20)) f cdv A outer s H E) (fun c d _ H' => E c d H') := takes_of rfl rfl rfl rfl
   have hu : (A.deeper (PyProof.Rows.envOfC "_law_cell_at" (defScope (top 20)) s.heap.objs.size f cdv)).units + 65 < cLine := by have := hr.un; omega
   have hu2 : (A.deeper (PyProof.Rows.envOfC "_law_cell_at" (defScope (top 20)) s.heap.objs.size f cdv)).units + 0 + 200 < cLine := by have := hr.un; omega
   have S := sc__law_cell_at
   exact ss_cons (sx_if (st_cmp op_lt s2_lt (mv 1) (se_callB call_len sn_len (by rfl) T.b_len (by decide +kernel) (sa_cons (mv 0) (sa_nil))) (nomark _))
      (ss_one (sx_ret (se_ix ix_seq s2_ix (mv 0) (mv 1) (fun _ _ => rfl))))
      (ss_nil))
      (ss_one (sx_ret (se_int)))
theorem sc__law_mix : FnScope ["_law_number", "_law_k", "_law_blend"] ["_law_number", "_law_k"] (defScope (top 21)) := ⟨rfl, rfl, rfl, by decide +kernel, rfl, by decide +kernel, by decide +kernel⟩
theorem sim__law_mix (T : Txt K mg) (d : Df K mg "_law_mix" (top 21) ["_law_number", "_law_k"]) : Cal P w K mg base "_law_mix" 1 (m_mix_1b9e1) := by
  exact cal_mk (k := 0) d sc__law_mix fun f cdv A outer s H E hr => by
   have tk : Takes (cxOf (L2.CX P w) P w K mg base ["_law_number", "_law_k", "_law_blend"] "_law_mix" (defScope (top 21)) f cdv A outer s H E) (fun c d _ H' => E c d H') := takes_of rfl rfl rfl rfl
   have hu : (A.deeper (PyProof.Rows.envOfC "_law_mix" (defScope (top 21)) s.heap.objs.size f cdv)).units + 65 < cLine := by have := hr.un; omega
   have hu2 : (A.deeper (PyProof.Rows.envOfC "_law_mix" (defScope (top 21)) s.heap.objs.size f cdv)).units + 0 + 200 < cLine := by have := hr.un; omega
   have S := sc__law_mix
   exact ss_cons (sx_set (i := 2) (se_bin op_mod s2_mod (se_bin op_mulA s2_mul (se_bin op_addA s2_add (se_bin op_addA s2_add (mv 0) (se_int)) (se_bin op_mulA s2_mul (mv 1) (mv 1))) (se_int)) (se_int)) S.nd)
      (ss_one (sx_ret (se_bin op_mod s2_mod (se_bin op_mulA s2_mul (mv 2) (se_bin op_addA s2_add (se_bin op_addA s2_add (se_bin op_fdivW s2_fdiv (mv 2) (se_int)) (se_bin op_mulA s2_mul (se_int) (mv 1))) (se_int))) (se_int))))
theorem sc__law_tape : FnScope ["_law_cell", "_law_many", "_law_found", "_law_rest", "_law_k"] ["_law_cell", "_law_many"] (defScope (top 22)) := ⟨rfl, rfl, rfl, by decide +kernel, rfl, by decide +kernel, by decide +kernel⟩
theorem sim__law_tape (T : Txt K mg) (d : Df K mg "_law_tape" (top 22) ["_law_cell", "_law_many"]) (c__law_mix : Cal P w K mg base "_law_mix" 1 (m_mix_1b9e1)) : Cal P w K mg base "_law_tape" 2 (m_tape_92891) := by
  exact cal_mk (k := 1) d sc__law_tape fun f cdv A outer s H E hr => by
   have tk : Takes (cxOf (L2.CX P w) P w K mg base ["_law_cell", "_law_many", "_law_found", "_law_rest", "_law_k"] "_law_tape" (defScope (top 22)) f cdv A outer s H E) (fun c d _ H' => E c d H') := takes_of rfl rfl rfl rfl
   have hu : (A.deeper (PyProof.Rows.envOfC "_law_tape" (defScope (top 22)) s.heap.objs.size f cdv)).units + 65 < cLine := by have := hr.un; omega
   have hu2 : (A.deeper (PyProof.Rows.envOfC "_law_tape" (defScope (top 22)) s.heap.objs.size f cdv)).units + 0 + 200 < cLine := by have := hr.un; omega
   have S := sc__law_tape
   exact ss_cons (sx_set (i := 2) (se_lst (sa_nil)) S.nd)
      (ss_cons (sx_set (i := 3) (mv 0) S.nd)
      (ss_cons (sx_for (passes_of rfl) (si_range1 T.b_range (mv 1)) (sg_name (i := 4) S.nd)
      (ss_one (sx_if (st_cmp op_ge s2_ge (mv 3) (se_bin op_pow s2_pow (se_int) (se_int)) (nomark _))
      (ss_cons (sx_expr (se_bm PySem.F.plainAttrs_list PySem.F.slot_list_append PySem.F.type_list_append mt_append sty_list sm_append (mv 2) (sa_cons (se_bin op_mod s2_mod (mv 3) (se_int)) (sa_nil))))
      (ss_one (sx_set (i := 3) (se_bin op_fdivW s2_fdiv (mv 3) (se_int)) S.nd)))
      (ss_one (sx_expr (se_bm PySem.F.plainAttrs_list PySem.F.slot_list_append PySem.F.type_list_append mt_append sty_list sm_append (mv 2) (sa_cons (se_callC c__law_mix (hr.mono (by omega)) tk (sa_cons (mv 0) (sa_cons (mv 4) (sa_nil)))) (sa_nil))))))))
      (ss_one (sx_ret (se_revL (mv 2))))))
theorem sc__law_next : FnScope ["_law_tape_here", "_law_many"] ["_law_tape_here", "_law_many"] (defScope (top 23)) := ⟨rfl, rfl, rfl, by decide +kernel, rfl, by decide +kernel, by decide +kernel⟩
theorem sim__law_next (T : Txt K mg) (d : Df K mg "_law_next" (top 23) ["_law_tape_here", "_law_many"]) : Cal P w K mg base "_law_next" 1 (m_next_fea17) := by
  exact cal_mk (k := 0) d sc__law_next fun f cdv A outer s H E hr => by
   have tk : Takes (cxOf (L2.CX P w) P w K mg base ["_law_tape_here", "_law_many"] "_law_next" (defScope (top 23)) f cdv A outer s H E) (fun c d _ H' => E c d H') := takes_of rfl rfl rfl rfl
   have hu : (A.deeper (PyProof.Rows.envOfC "_law_next" (defScope (top 23)) s.heap.objs.size f cdv)).units + 65 < cLine := by have := hr.un; omega
   have hu2 : (A.deeper (PyProof.Rows.envOfC "_law_next" (defScope (top 23)) s.heap.objs.size f cdv)).units + 0 + 200 < cLine := by have := hr.un; omega
   have S := sc__law_next
   exact ss_cons (sx_if (st_cmp (op_eqA (n := 0) hu2) s2_eq (mv 0) (se_lst (sa_nil)) (nomark _))
      (ss_one (sx_ret (se_int)))
      (ss_nil))
      (ss_one (sx_ret (se_bin op_mod s2_mod (se_bm0 PySem.F.plainAttrs_list PySem.F.slot_list_pop PySem.F.type_list_pop mt_pop sty_list sm_pop (mv 0)) (mv 1))))
theorem sc__law_items : FnScope ["_law_tape_here", "_law_depth", "_law_pool", "_law_found", "_law_k", "_law_name"] ["_law_tape_here", "_law_depth", "_law_pool"] (defScope (top 25)) := ⟨rfl, rfl, rfl, by decide +kernel, rfl, by decide +kernel, by decide +kernel⟩
theorem sim__law_items (T : Txt K mg) (d : Df K mg "_law_items" (top 25) ["_law_tape_here", "_law_depth", "_law_pool"]) (c__law_next : Cal P w K mg base "_law_next" 1 (m_next_fea17)) : ∀ n, Cal P w K mg base "_law_items" (n + 1) (m_items_b2406 n)
 | 0 => cal_none d (fun _ _ => rfl)
 | n + 1 => by
  have c_self := sim__law_items T d c__law_next n
  have e : n + 1 + 1 = (n + 1) + 1 := by omega
  rw [e]
  exact cal_mk (k := n + 1) d sc__law_items fun f cdv A outer s H E hr => by
   have tk : Takes (cxOf (L2.CX P w) P w K mg base ["_law_tape_here", "_law_depth", "_law_pool", "_law_found", "_law_k", "_law_name"] "_law_items" (defScope (top 25)) f cdv A outer s H E) (fun c d _ H' => E c d H') := takes_of rfl rfl rfl rfl
   have hu : (A.deeper (PyProof.Rows.envOfC "_law_items" (defScope (top 25)) s.heap.objs.size f cdv)).units + 65 < cLine := by have := hr.un; omega
   have hu2 : (A.deeper (PyProof.Rows.envOfC "_law_items" (defScope (top 25)) s.heap.objs.size f cdv)).units + 0 + 200 < cLine := by have := hr.un; omega
   have S := sc__law_items
   exact ss_cons (sx_set (i := 3) (se_lst (sa_nil)) S.nd)
      (ss_cons (sx_for (passes_of rfl) (si_range1 T.b_range (se_callC c__law_next (hr.mono (by omega)) tk (sa_cons (mv 0) (sa_cons (se_int) (sa_nil))))) (sg_name (i := 4) S.nd)
      (ss_one (sx_if (st_cmp (op_eqA (n := 0) hu2) s2_eq (se_callC c__law_next (hr.mono (by omega)) tk (sa_cons (mv 0) (sa_cons (se_int) (sa_nil)))) (se_int) (nomark _))
      (ss_one (sx_expr (se_bm PySem.F.plainAttrs_list PySem.F.slot_list_append PySem.F.type_list_append mt_append sty_list sm_append (mv 3) (sa_cons (se_str) (sa_nil)))))
      (ss_one (sx_if (st_cmp (op_eqA (n := 0) hu2) s2_eq (mv 1) (se_int) (nomark _))
      (ss_one (sx_expr (se_bm PySem.F.plainAttrs_list PySem.F.slot_list_append PySem.F.type_list_append mt_append sty_list sm_append (mv 3) (sa_cons (se_tup (sa_cons (se_ix ix_seq s2_ix (mv 2) (se_callC c__law_next (hr.mono (by omega)) tk (sa_cons (mv 0) (sa_cons (se_int) (sa_nil)))) (fun _ _ => rfl)) (sa_cons (se_tup (sa_nil)) (sa_nil)))) (sa_nil)))))
      (ss_cons (sx_set (i := 5) (se_ix ix_seq s2_ix (mv 2) (se_callC c__law_next (hr.mono (by omega)) tk (sa_cons (mv 0) (sa_cons (se_int) (sa_nil)))) (fun _ _ => rfl)) S.nd)
      (ss_one (sx_expr (se_bm PySem.F.plainAttrs_list PySem.F.slot_list_append PySem.F.type_list_append mt_append sty_list sm_append (mv 3) (sa_cons (se_tup (sa_cons (mv 5) (sa_cons (se_callC c_self (hr.mono (by omega)) tk (sa_cons (mv 0) (sa_cons (se_bin op_sub s2_sub (mv 1) (se_int)) (sa_cons (mv 2) (sa_nil))))) (sa_nil)))) (sa_nil)))))))))))
      (ss_one (sx_ret (se_callTy call_tupF sn_tuple (by rfl) T.b_tuple (by decide +kernel) (sa_cons (mv 3) (sa_nil))))))
theorem sc__law_turner : FnScope ["_law_script", "_law_start", "_law_most", "_law_pool", "_law_deep_here", "_law_first", "_law_rules", "_law_k", "_law_tape_here", "_law_depth"] ["_law_script", "_law_start", "_law_most", "_law_pool", "_law_deep_here"] (defScope (top 26)) := ⟨rfl, rfl, rfl, by decide +kernel, rfl, by decide +kernel, by decide +kernel⟩
theorem sim__law_turner (T : Txt K mg) (d : Df K mg "_law_turner" (top 26) ["_law_script", "_law_start", "_law_most", "_law_pool", "_law_deep_here"]) (c__law_cell_at : Cal P w K mg base "_law_cell_at" 1 (m_cell_at_2c4cb)) (c__law_tape : Cal P w K mg base "_law_tape" 2 (m_tape_92891)) (c__law_next : Cal P w K mg base "_law_next" 1 (m_next_fea17)) (c__law_items : Cal P w K mg base "_law_items" 101 (m_items_b2406 100)) : Cal P w K mg base "_law_turner" 102 (m_turner_aa784) := by
  exact cal_mk (k := 101) d sc__law_turner fun f cdv A outer s H E hr => by
   have tk : Takes (cxOf (L2.CX P w) P w K mg base ["_law_script", "_law_start", "_law_most", "_law_pool", "_law_deep_here", "_law_first", "_law_rules", "_law_k", "_law_tape_here", "_law_depth"] "_law_turner" (defScope (top 26)) f cdv A outer s H E) (fun c d _ H' => E c d H') := takes_of rfl rfl rfl rfl
   have hu : (A.deeper (PyProof.Rows.envOfC "_law_turner" (defScope (top 26)) s.heap.objs.size f cdv)).units + 65 < cLine := by have := hr.un; omega
   have hu2 : (A.deeper (PyProof.Rows.envOfC "_law_turner" (defScope (top 26)) s.heap.objs.size f cdv)).units + 0 + 200 < cLine := by have := hr.un; omega
   have S := sc__law_turner
   exact ss_cons (sx_set (i := 5) (se_callC c__law_cell_at (hr.mono (by omega)) tk (sa_cons (mv 0) (sa_cons (mv 1) (sa_nil)))) S.nd)
      (ss_cons (sx_set (i := 6) (se_lst (sa_nil)) S.nd)
      (ss_cons (sx_for (passes_of rfl) (si_range1 T.b_range (se_bin op_mod s2_mod (mv 5) (se_bin op_addA s2_add (mv 2) (se_int)))) (sg_name (i := 7) S.nd)
      (ss_cons (sx_set (i := 8) (se_callC c__law_tape (hr.mono (by omega)) tk (sa_cons (se_callC c__law_cell_at (hr.mono (by omega)) tk (sa_cons (mv 0) (sa_cons (se_bin op_addA s2_add (se_bin op_addA s2_add (mv 1) (se_int)) (mv 7)) (sa_nil)))) (sa_cons (se_int) (sa_nil)))) S.nd)
      (ss_cons (sx_set (i := 9) (se_callC c__law_next (hr.mono (by omega)) tk (sa_cons (mv 8) (sa_cons (mv 4) (sa_nil)))) S.nd)
      (ss_one (sx_expr (se_bm PySem.F.plainAttrs_list PySem.F.slot_list_append PySem.F.type_list_append mt_append sty_list sm_append (mv 6) (sa_cons (se_tup (sa_cons (se_ix ix_seq s2_ix (mv 3) (se_bin op_mod s2_mod (se_bin op_addA s2_add (se_bin op_fdivW s2_fdiv (mv 5) (se_int)) (se_bin op_mulA s2_mul (se_int) (mv 7))) (se_int)) (fun _ _ => rfl)) (sa_cons (se_callC c__law_items (hr.mono (by omega)) tk (sa_cons (mv 8) (sa_cons (mv 9) (sa_cons (mv 3) (sa_nil))))) (sa_nil)))) (sa_nil))))))))
      (ss_one (sx_ret (se_callTy call_tupF sn_tuple (by rfl) T.b_tuple (by decide +kernel) (sa_cons (mv 6) (sa_nil)))))))
theorem sc__law_firsts : FnScope ["_law_script", "_law_pool", "_law_rules", "_law_tape_here", "_law_items_here", "_law_k"] ["_law_script", "_law_pool"] (defScope (top 40)) := ⟨rfl, rfl, rfl, by decide +kernel, rfl, by decide +kernel, by decide +kernel⟩
theorem sim__law_firsts (T : Txt K mg) (d : Df K mg "_law_firsts" (top 40) ["_law_script", "_law_pool"]) (c__law_turner : Cal P w K mg base "_law_turner" 102 (m_turner_aa784)) (c__law_tape : Cal P w K mg base "_law_tape" 2 (m_tape_92891)) (c__law_cell_at : Cal P w K mg base "_law_cell_at" 1 (m_cell_at_2c4cb)) (c__law_next : Cal P w K mg base "_law_next" 1 (m_next_fea17)) : Cal P w K mg base "_law_firsts" 103 (m_firsts_3d5cc) := by
  exact cal_mk (k := 102) d sc__law_firsts fun f cdv A outer s H E hr => by
   have tk : Takes (cxOf (L2.CX P w) P w K mg base ["_law_script", "_law_pool", "_law_rules", "_law_tape_here", "_law_items_here", "_law_k"] "_law_firsts" (defScope (top 40)) f cdv A outer s H E) (fun c d _ H' => E c d H') := takes_of rfl rfl rfl rfl
   have hu : (A.deeper (PyProof.Rows.envOfC "_law_firsts" (defScope (top 40)) s.heap.objs.size f cdv)).units + 65 < cLine := by have := hr.un; omega
   have hu2 : (A.deeper (PyProof.Rows.envOfC "_law_firsts" (defScope (top 40)) s.heap.objs.size f cdv)).units + 0 + 200 < cLine := by have := hr.un; omega
   have S := sc__law_firsts
   exact ss_cons (sx_set (i := 2) (se_callC c__law_turner (hr.mono (by omega)) tk (sa_cons (mv 0) (sa_cons (se_int) (sa_cons (se_int) (sa_cons (mv 1) (sa_cons (se_int) (sa_nil))))))) S.nd)
      (ss_cons (sx_set (i := 3) (se_callC c__law_tape (hr.mono (by omega)) tk (sa_cons (se_callC c__law_cell_at (hr.mono (by omega)) tk (sa_cons (mv 0) (sa_cons (se_int) (sa_nil)))) (sa_cons (se_int) (sa_nil)))) S.nd)
      (ss_cons (sx_if ((sw_and (st_cmp (op_eqA (n := 0) hu2) s2_eq (se_callC c__law_next (hr.mono (by omega)) tk (sa_cons (mv 3) (sa_cons (se_int) (sa_nil)))) (se_int) (nomark _)) (sw_and1 (st_cmp op_gt s2_gt (se_callB call_len sn_len (by rfl) T.b_len (by decide +kernel) (sa_cons (mv 2) (sa_nil))) (se_int) (nomark _)))).pt)
      (ss_cons (sx_set (i := 4) (se_tup (sa_cons (se_str) (sa_nil))) S.nd)
      (ss_cons (sx_for (passes_of rfl) (si_range1 T.b_range (se_callC c__law_next (hr.mono (by omega)) tk (sa_cons (mv 3) (sa_cons (se_int) (sa_nil))))) (sg_name (i := 5) S.nd)
      (ss_cons (sx_set (i := 4) (se_tup (sa_cons (se_tup (sa_cons (se_ix ix_seq s2_ix (mv 1) (se_callC c__law_next (hr.mono (by omega)) tk (sa_cons (mv 3) (sa_cons (se_int) (sa_nil)))) (fun _ _ => rfl)) (sa_cons (mv 4) (sa_nil)))) (sa_nil))) S.nd)
      (ss_one (sx_if (st_cmp (op_eqA (n := 0) hu2) s2_eq (se_callC c__law_next (hr.mono (by omega)) tk (sa_cons (mv 3) (sa_cons (se_int) (sa_nil)))) (se_int) (nomark _))
      (ss_one (sx_set (i := 4) (se_bin op_addA s2_add (mv 4) (se_tup (sa_cons (se_str) (sa_nil)))) S.nd))
      (ss_nil)))))
      (ss_one (sx_set (i := 2) (se_bin op_addA s2_add (se_tup (sa_cons (se_tup (sa_cons (se_ix ix_seq s2_ix (se_ix ix_seq s2_ix (mv 2) (se_int) (fun _ _ => rfl)) (se_int) (fun _ _ => rfl)) (sa_cons (mv 4) (sa_nil)))) (sa_nil))) (se_slice (mv 2) (sp_some (se_int)) (sp_none))) S.nd))))
      (ss_nil))
      (ss_one (sx_ret (mv 2)))))
theorem sc__law_for : FnScope ["_law_rules", "_law_name", "_law_rule"] ["_law_rules", "_law_name"] (defScope (top 28)) := ⟨rfl, rfl, rfl, by decide +kernel, rfl, by decide +kernel, by decide +kernel⟩
theorem sim__law_for (T : Txt K mg) (d : Df K mg "_law_for" (top 28) ["_law_rules", "_law_name"]) : Cal P w K mg base "_law_for" 1 (m_for_39fc1) := by
  exact cal_mk (k := 0) d sc__law_for fun f cdv A outer s H E hr => by
   have tk : Takes (cxOf (L2.CX P w) P w K mg base ["_law_rules", "_law_name", "_law_rule"] "_law_for" (defScope (top 28)) f cdv A outer s H E) (fun c d _ H' => E c d H') := takes_of rfl rfl rfl rfl
   have hu : (A.deeper (PyProof.Rows.envOfC "_law_for" (defScope (top 28)) s.heap.objs.size f cdv)).units + 65 < cLine := by have := hr.un; omega
   have hu2 : (A.deeper (PyProof.Rows.envOfC "_law_for" (defScope (top 28)) s.heap.objs.size f cdv)).units + 0 + 200 < cLine := by have := hr.un; omega
   have S := sc__law_for
   exact ss_cons (sx_for (passes_of rfl) (si_iter (mv 0)) (sg_name (i := 2) S.nd)
      (ss_one (sx_if (st_cmp (op_eqA (n := 0) hu2) s2_eq (se_ix ix_seq s2_ix (mv 2) (se_int) (fun _ _ => rfl)) (mv 1) (nomark _))
      (ss_one (sx_ret (se_ix ix_seq s2_ix (mv 2) (se_int) (fun _ _ => rfl))))
      (ss_nil))))
      (ss_one (sx_ret (se_tup (sa_cons (mv 1) (sa_nil)))))
theorem sc__law_size : FnScope ["_law_items_here", "_law_size_here", "_law_many", "_law_item"] ["_law_items_here", "_law_size_here"] (defScope (top 29)) := ⟨rfl, rfl, rfl, by decide +kernel, rfl, by decide +kernel, by decide +kernel⟩
theorem sim__law_size (T : Txt K mg) (d : Df K mg "_law_size" (top 29) ["_law_items_here", "_law_size_here"]) : ∀ n, Cal P w K mg base "_law_size" (n + 1) (m_size_05894 n)
 | 0 => cal_none d (fun _ _ => rfl)
 | n + 1 => by
  have c_self := sim__law_size T d n
  have e : n + 1 + 1 = (n + 1) + 1 := by omega
  rw [e]
  exact cal_mk (k := n + 1) d sc__law_size fun f cdv A outer s H E hr => by
   have tk : Takes (cxOf (L2.CX P w) P w K mg base ["_law_items_here", "_law_size_here", "_law_many", "_law_item"] "_law_size" (defScope (top 29)) f cdv A outer s H E) (fun c d _ H' => E c d H') := takes_of rfl rfl rfl rfl
   have hu : (A.deeper (PyProof.Rows.envOfC "_law_size" (defScope (top 29)) s.heap.objs.size f cdv)).units + 65 < cLine := by have := hr.un; omega
   have hu2 : (A.deeper (PyProof.Rows.envOfC "_law_size" (defScope (top 29)) s.heap.objs.size f cdv)).units + 0 + 200 < cLine := by have := hr.un; omega
   have S := sc__law_size
   exact ss_cons (sx_set (i := 2) (se_int) S.nd)
      (ss_cons (sx_for (passes_of rfl) (si_iter (mv 0)) (sg_name (i := 3) S.nd)
      (ss_one (sx_if (st_cmp (op_eqA (n := 0) hu2) s2_eq (mv 3) (se_str) (nomark _))
      (ss_one (sx_set (i := 2) (se_bin op_addA s2_add (mv 2) (mv 1)) S.nd))
      (ss_one (sx_set (i := 2) (se_bin op_addA s2_add (se_bin op_addA s2_add (mv 2) (se_int)) (se_callC c_self (hr.mono (by omega)) tk (sa_cons (se_ix ix_seq s2_ix (mv 3) (se_int) (fun _ _ => rfl)) (sa_cons (mv 1) (sa_nil))))) S.nd)))))
      (ss_one (sx_ret (mv 2))))
theorem sc__law_deep : FnScope ["_law_items_here", "_law_depth", "_law_far", "_law_item"] ["_law_items_here", "_law_depth"] (defScope (top 32)) := ⟨rfl, rfl, rfl, by decide +kernel, rfl, by decide +kernel, by decide +kernel⟩
theorem sim__law_deep (T : Txt K mg) (d : Df K mg "_law_deep" (top 32) ["_law_items_here", "_law_depth"]) : ∀ n, Cal P w K mg base "_law_deep" (n + 1) (m_deep_c9d37 n)
 | 0 => cal_none d (fun _ _ => rfl)
 | n + 1 => by
  have c_self := sim__law_deep T d n
  have e : n + 1 + 1 = (n + 1) + 1 := by omega
  rw [e]
  exact cal_mk (k := n + 1) d sc__law_deep fun f cdv A outer s H E hr => by
   have tk : Takes (cxOf (L2.CX P w) P w K mg base ["_law_items_here", "_law_depth", "_law_far", "_law_item"] "_law_deep" (defScope (top 32)) f cdv A outer s H E) (fun c d _ H' => E c d H') := takes_of rfl rfl rfl rfl
   have hu : (A.deeper (PyProof.Rows.envOfC "_law_deep" (defScope (top 32)) s.heap.objs.size f cdv)).units + 65 < cLine := by have := hr.un; omega
   have hu2 : (A.deeper (PyProof.Rows.envOfC "_law_deep" (defScope (top 32)) s.heap.objs.size f cdv)).units + 0 + 200 < cLine := by have := hr.un; omega
   have S := sc__law_deep
   exact ss_cons (sx_set (i := 2) (se_int) S.nd)
      (ss_cons (sx_for (passes_of rfl) (si_iter (mv 0)) (sg_name (i := 3) S.nd)
      (ss_one (sx_if (st_cmp (op_eqA (n := 0) hu2) s2_eq (mv 3) (se_str) (nomark _))
      (ss_one (sx_set (i := 2) (se_callB (call_max2 rfl) sn_max (by rfl) T.b_max (by decide +kernel) (sa_cons (mv 2) (sa_cons (mv 1) (sa_nil)))) S.nd))
      (ss_one (sx_set (i := 2) (se_callB (call_max2 rfl) sn_max (by rfl) T.b_max (by decide +kernel) (sa_cons (mv 2) (sa_cons (se_bin op_addA s2_add (se_int) (se_callC c_self (hr.mono (by omega)) tk (sa_cons (se_ix ix_seq s2_ix (mv 3) (se_int) (fun _ _ => rfl)) (sa_cons (mv 1) (sa_nil))))) (sa_nil)))) S.nd)))))
      (ss_one (sx_ret (mv 2))))
theorem sc__law_counts : FnScope ["_law_items_here", "_law_second", "_law_many", "_law_far", "_law_item", "_law_counts_here", "_law_inner", "_law_some"] ["_law_items_here", "_law_second"] (defScope (top 33)) := ⟨rfl, rfl, rfl, by decide +kernel, rfl, by decide +kernel, by decide +kernel⟩
theorem sim__law_counts (T : Txt K mg) (d : Df K mg "_law_counts" (top 33) ["_law_items_here", "_law_second"]) (c__law_for : Cal P w K mg base "_law_for" 1 (m_for_39fc1)) (c__law_size : Cal P w K mg base "_law_size" 101 (m_size_05894 100)) (c__law_deep : Cal P w K mg base "_law_deep" 101 (m_deep_c9d37 100)) : ∀ n, Cal P w K mg base "_law_counts" (n + 101) (m_counts_fd1bc n)
 | 0 => cal_none d (fun _ _ => rfl)
 | n + 1 => by
  have c_self := sim__law_counts T d c__law_for c__law_size c__law_deep n
  have e : n + 1 + 101 = (n + 101) + 1 := by omega
  rw [e]
  exact cal_mk (k := n + 101) d sc__law_counts fun f cdv A outer s H E hr => by
   have tk : Takes (cxOf (L2.CX P w) P w K mg base ["_law_items_here", "_law_second", "_law_many", "_law_far", "_law_item", "_law_counts_here", "_law_inner", "_law_some"] "_law_counts" (defScope (top 33)) f cdv A outer s H E) (fun c d _ H' => E c d H') := takes_of rfl rfl rfl rfl
   have hu : (A.deeper (PyProof.Rows.envOfC "_law_counts" (defScope (top 33)) s.heap.objs.size f cdv)).units + 65 < cLine := by have := hr.un; omega
   have hu2 : (A.deeper (PyProof.Rows.envOfC "_law_counts" (defScope (top 33)) s.heap.objs.size f cdv)).units + 0 + 200 < cLine := by have := hr.un; omega
   have S := sc__law_counts
   exact ss_cons (sx_set (i := 2) (se_int) S.nd)
      (ss_cons (sx_set (i := 3) (se_int) S.nd)
      (ss_cons (sx_for (passes_of rfl) (si_iter (mv 0)) (sg_name (i := 4) S.nd)
      (ss_cons (sx_set (i := 5) (se_tup (sa_cons (se_int) (sa_cons (se_int) (sa_nil)))) S.nd)
      (ss_cons (sx_if (st_cmp (op_neA (n := 0) hu2) s2_ne (mv 4) (se_str) (nomark _))
      (ss_cons (sx_set (i := 6) (se_callC c_self (hr.mono (by omega)) tk (sa_cons (se_ix ix_seq s2_ix (mv 4) (se_int) (fun _ _ => rfl)) (sa_cons (mv 1) (sa_nil)))) S.nd)
      (ss_cons (sx_set (i := 7) (se_callC c__law_for (hr.mono (by omega)) tk (sa_cons (mv 1) (sa_cons (se_ix ix_seq s2_ix (mv 4) (se_int) (fun _ _ => rfl)) (sa_nil)))) S.nd)
      (ss_cons (sx_set (i := 5) (se_tup (sa_cons (se_bin op_addA s2_add (se_int) (se_ix ix_seq s2_ix (mv 6) (se_int) (fun _ _ => rfl))) (sa_cons (se_bin op_addA s2_add (se_int) (se_ix ix_seq s2_ix (mv 6) (se_int) (fun _ _ => rfl))) (sa_nil)))) S.nd)
      (ss_one (sx_if (st_cmp (op_neA (n := 0) hu2) s2_ne (mv 7) (se_tup (sa_cons (se_ix ix_seq s2_ix (mv 4) (se_int) (fun _ _ => rfl)) (sa_nil))) (nomark _))
      (ss_one (sx_set (i := 5) (se_tup (sa_cons (se_callC c__law_size (hr.mono (by omega)) tk (sa_cons (mv 7) (sa_cons (se_ix ix_seq s2_ix (mv 6) (se_int) (fun _ _ => rfl)) (sa_nil)))) (sa_cons (se_callC c__law_deep (hr.mono (by omega)) tk (sa_cons (mv 7) (sa_cons (se_ix ix_seq s2_ix (mv 6) (se_int) (fun _ _ => rfl)) (sa_nil)))) (sa_nil)))) S.nd))
      (ss_nil))))))
      (ss_nil))
      (ss_cons (sx_set (i := 2) (se_bin op_addA s2_add (mv 2) (se_ix ix_seq s2_ix (mv 5) (se_int) (fun _ _ => rfl))) S.nd)
      (ss_one (sx_set (i := 3) (se_callB (call_max2 rfl) sn_max (by rfl) T.b_max (by decide +kernel) (sa_cons (mv 3) (sa_cons (se_ix ix_seq s2_ix (mv 5) (se_int) (fun _ _ => rfl)) (sa_nil)))) S.nd))))))
      (ss_one (sx_ret (se_tup (sa_cons (mv 2) (sa_cons (mv 3) (sa_nil))))))))
theorem sc_items_for : FnScope ["turner", "name", "rule"] ["turner", "name"] (defScope (top 10)) := ⟨rfl, rfl, rfl, by decide +kernel, rfl, by decide +kernel, by decide +kernel⟩
theorem sim_items_for (T : Txt K mg) (d : Df K mg "items_for" (top 10) ["turner", "name"]) : Cal P w K mg base "items_for" 1 (m_items_for_2ec27) := by
  exact cal_mk (k := 0) d sc_items_for fun f cdv A outer s H E hr => by
   have tk : Takes (cxOf (L2.CX P w) P w K mg base ["turner", "name", "rule"] "items_for" (defScope (top 10)) f cdv A outer s H E) (fun c d _ H' => E c d H') := takes_of rfl rfl rfl rfl
   have hu : (A.deeper (PyProof.Rows.envOfC "items_for" (defScope (top 10)) s.heap.objs.size f cdv)).units + 65 < cLine := by have := hr.un; omega
   have hu2 : (A.deeper (PyProof.Rows.envOfC "items_for" (defScope (top 10)) s.heap.objs.size f cdv)).units + 0 + 200 < cLine := by have := hr.un; omega
   have S := sc_items_for
   exact ss_cons (sx_for (passes_of rfl) (si_iter (mv 0)) (sg_name (i := 2) S.nd)
      (ss_one (sx_if (st_cmp (op_eqA (n := 0) hu2) s2_eq (se_ix ix_seq s2_ix (mv 2) (se_int) (fun _ _ => rfl)) (mv 1) (nomark _))
      (ss_one (sx_ret (se_ix ix_seq s2_ix (mv 2) (se_int) (fun _ _ => rfl))))
      (ss_nil))))
      (ss_one (sx_ret (se_non)))
theorem sc_filled_size : FnScope ["items", "size", "many", "item"] ["items", "size"] (defScope (top 13)) := ⟨rfl, rfl, rfl, by decide +kernel, rfl, by decide +kernel, by decide +kernel⟩
theorem sim_filled_size (T : Txt K mg) (d : Df K mg "filled_size" (top 13) ["items", "size"]) : ∀ n, Cal P w K mg base "filled_size" (n + 1) (m_filled_size_5412a n)
 | 0 => cal_none d (fun _ _ => rfl)
 | n + 1 => by
  have c_self := sim_filled_size T d n
  obtain ⟨t_HOLE, g_HOLE⟩ := T.g_HOLE
  have e : n + 1 + 1 = (n + 1) + 1 := by omega
  rw [e]
  exact cal_mk (k := n + 1) d sc_filled_size fun f cdv A outer s H E hr => by
   have tk : Takes (cxOf (L2.CX P w) P w K mg base ["items", "size", "many", "item"] "filled_size" (defScope (top 13)) f cdv A outer s H E) (fun c d _ H' => E c d H') := takes_of rfl rfl rfl rfl
   have hu : (A.deeper (PyProof.Rows.envOfC "filled_size" (defScope (top 13)) s.heap.objs.size f cdv)).units + 65 < cLine := by have := hr.un; omega
   have hu2 : (A.deeper (PyProof.Rows.envOfC "filled_size" (defScope (top 13)) s.heap.objs.size f cdv)).units + 0 + 200 < cLine := by have := hr.un; omega
   have S := sc_filled_size
   exact ss_cons (sx_set (i := 2) (se_int) S.nd)
      (ss_cons (sx_for (passes_of rfl) (si_iter (mv 0)) (sg_name (i := 3) S.nd)
      (ss_one (sx_if (st_cmp (op_eqA (n := 0) hu2) s2_eq (mv 3) (se_globS (by rfl) g_HOLE) (nomark _))
      (ss_one (sx_set (i := 2) (se_bin op_addA s2_add (mv 2) (mv 1)) S.nd))
      (ss_one (sx_set (i := 2) (se_bin op_addA s2_add (se_bin op_addA s2_add (mv 2) (se_int)) (se_callC c_self (hr.mono (by omega)) tk (sa_cons (se_ix ix_seq s2_ix (mv 3) (se_int) (fun _ _ => rfl)) (sa_cons (mv 1) (sa_nil))))) S.nd)))))
      (ss_one (sx_ret (mv 2))))
theorem sc_chained_size : FnScope ["items", "second", "many", "item", "size", "rule"] ["items", "second"] (defScope (top 15)) := ⟨rfl, rfl, rfl, by decide +kernel, rfl, by decide +kernel, by decide +kernel⟩
theorem sim_chained_size (T : Txt K mg) (d : Df K mg "chained_size" (top 15) ["items", "second"]) (c_items_for : Cal P w K mg base "items_for" 1 (m_items_for_2ec27)) (c_filled_size : Cal P w K mg base "filled_size" 101 (m_filled_size_5412a 100)) : ∀ n, Cal P w K mg base "chained_size" (n + 101) (m_chained_size_ac0f3 n)
 | 0 => cal_none d (fun _ _ => rfl)
 | n + 1 => by
  have c_self := sim_chained_size T d c_items_for c_filled_size n
  obtain ⟨t_HOLE, g_HOLE⟩ := T.g_HOLE
  have e : n + 1 + 101 = (n + 101) + 1 := by omega
  rw [e]
  exact cal_mk (k := n + 101) d sc_chained_size fun f cdv A outer s H E hr => by
   have tk : Takes (cxOf (L2.CX P w) P w K mg base ["items", "second", "many", "item", "size", "rule"] "chained_size" (defScope (top 15)) f cdv A outer s H E) (fun c d _ H' => E c d H') := takes_of rfl rfl rfl rfl
   have hu : (A.deeper (PyProof.Rows.envOfC "chained_size" (defScope (top 15)) s.heap.objs.size f cdv)).units + 65 < cLine := by have := hr.un; omega
   have hu2 : (A.deeper (PyProof.Rows.envOfC "chained_size" (defScope (top 15)) s.heap.objs.size f cdv)).units + 0 + 200 < cLine := by have := hr.un; omega
   have S := sc_chained_size
   exact ss_cons (sx_set (i := 2) (se_int) S.nd)
      (ss_cons (sx_for (passes_of rfl) (si_iter (mv 0)) (sg_name (i := 3) S.nd)
      (ss_one (sx_if (st_cmp (op_eqA (n := 0) hu2) s2_eq (mv 3) (se_globS (by rfl) g_HOLE) (nomark _))
      (ss_one (sx_set (i := 2) (se_bin op_addA s2_add (mv 2) (se_int)) S.nd))
      (ss_cons (sx_set (i := 4) (se_callC c_self (hr.mono (by omega)) tk (sa_cons (se_ix ix_seq s2_ix (mv 3) (se_int) (fun _ _ => rfl)) (sa_cons (mv 1) (sa_nil)))) S.nd)
      (ss_cons (sx_set (i := 5) (se_callC c_items_for (hr.mono (by omega)) tk (sa_cons (mv 1) (sa_cons (se_ix ix_seq s2_ix (mv 3) (se_int) (fun _ _ => rfl)) (sa_nil)))) S.nd)
      (ss_one (sx_if (st_cmp op_isN s2_isN (mv 5) (se_non) (nomark _))
      (ss_one (sx_set (i := 2) (se_bin op_addA s2_add (se_bin op_addA s2_add (mv 2) (se_int)) (mv 4)) S.nd))
      (ss_one (sx_set (i := 2) (se_bin op_addA s2_add (mv 2) (se_callC c_filled_size (hr.mono (by omega)) tk (sa_cons (mv 5) (sa_cons (mv 4) (sa_nil))))) S.nd)))))))))
      (ss_one (sx_ret (mv 2))))
theorem sc_filled_depth : FnScope ["items", "depth", "deep", "item"] ["items", "depth"] (defScope (top 14)) := ⟨rfl, rfl, rfl, by decide +kernel, rfl, by decide +kernel, by decide +kernel⟩
theorem sim_filled_depth (T : Txt K mg) (d : Df K mg "filled_depth" (top 14) ["items", "depth"]) : ∀ n, Cal P w K mg base "filled_depth" (n + 1) (m_filled_depth_8b70f n)
 | 0 => cal_none d (fun _ _ => rfl)
 | n + 1 => by
  have c_self := sim_filled_depth T d n
  obtain ⟨t_HOLE, g_HOLE⟩ := T.g_HOLE
  have e : n + 1 + 1 = (n + 1) + 1 := by omega
  rw [e]
  exact cal_mk (k := n + 1) d sc_filled_depth fun f cdv A outer s H E hr => by
   have tk : Takes (cxOf (L2.CX P w) P w K mg base ["items", "depth", "deep", "item"] "filled_depth" (defScope (top 14)) f cdv A outer s H E) (fun c d _ H' => E c d H') := takes_of rfl rfl rfl rfl
   have hu : (A.deeper (PyProof.Rows.envOfC "filled_depth" (defScope (top 14)) s.heap.objs.size f cdv)).units + 65 < cLine := by have := hr.un; omega
   have hu2 : (A.deeper (PyProof.Rows.envOfC "filled_depth" (defScope (top 14)) s.heap.objs.size f cdv)).units + 0 + 200 < cLine := by have := hr.un; omega
   have S := sc_filled_depth
   exact ss_cons (sx_set (i := 2) (se_int) S.nd)
      (ss_cons (sx_for (passes_of rfl) (si_iter (mv 0)) (sg_name (i := 3) S.nd)
      (ss_one (sx_if (st_cmp (op_eqA (n := 0) hu2) s2_eq (mv 3) (se_globS (by rfl) g_HOLE) (nomark _))
      (ss_one (sx_set (i := 2) (se_callB (call_max2 rfl) sn_max (by rfl) T.b_max (by decide +kernel) (sa_cons (mv 2) (sa_cons (mv 1) (sa_nil)))) S.nd))
      (ss_one (sx_set (i := 2) (se_callB (call_max2 rfl) sn_max (by rfl) T.b_max (by decide +kernel) (sa_cons (mv 2) (sa_cons (se_bin op_addA s2_add (se_int) (se_callC c_self (hr.mono (by omega)) tk (sa_cons (se_ix ix_seq s2_ix (mv 3) (se_int) (fun _ _ => rfl)) (sa_cons (mv 1) (sa_nil))))) (sa_nil)))) S.nd)))))
      (ss_one (sx_ret (mv 2))))
theorem sc_chained_depth : FnScope ["items", "second", "deep", "item", "depth", "rule"] ["items", "second"] (defScope (top 16)) := ⟨rfl, rfl, rfl, by decide +kernel, rfl, by decide +kernel, by decide +kernel⟩
theorem sim_chained_depth (T : Txt K mg) (d : Df K mg "chained_depth" (top 16) ["items", "second"]) (c_items_for : Cal P w K mg base "items_for" 1 (m_items_for_2ec27)) (c_filled_depth : Cal P w K mg base "filled_depth" 101 (m_filled_depth_8b70f 100)) : ∀ n, Cal P w K mg base "chained_depth" (n + 101) (m_chained_depth_b220a n)
 | 0 => cal_none d (fun _ _ => rfl)
 | n + 1 => by
  have c_self := sim_chained_depth T d c_items_for c_filled_depth n
  obtain ⟨t_HOLE, g_HOLE⟩ := T.g_HOLE
  have e : n + 1 + 101 = (n + 101) + 1 := by omega
  rw [e]
  exact cal_mk (k := n + 101) d sc_chained_depth fun f cdv A outer s H E hr => by
   have tk : Takes (cxOf (L2.CX P w) P w K mg base ["items", "second", "deep", "item", "depth", "rule"] "chained_depth" (defScope (top 16)) f cdv A outer s H E) (fun c d _ H' => E c d H') := takes_of rfl rfl rfl rfl
   have hu : (A.deeper (PyProof.Rows.envOfC "chained_depth" (defScope (top 16)) s.heap.objs.size f cdv)).units + 65 < cLine := by have := hr.un; omega
   have hu2 : (A.deeper (PyProof.Rows.envOfC "chained_depth" (defScope (top 16)) s.heap.objs.size f cdv)).units + 0 + 200 < cLine := by have := hr.un; omega
   have S := sc_chained_depth
   exact ss_cons (sx_set (i := 2) (se_int) S.nd)
      (ss_cons (sx_for (passes_of rfl) (si_iter (mv 0)) (sg_name (i := 3) S.nd)
      (ss_one (sx_if (st_cmp (op_eqA (n := 0) hu2) s2_eq (mv 3) (se_globS (by rfl) g_HOLE) (nomark _))
      (ss_one (sx_set (i := 2) (se_callB (call_max2 rfl) sn_max (by rfl) T.b_max (by decide +kernel) (sa_cons (mv 2) (sa_cons (se_int) (sa_nil)))) S.nd))
      (ss_cons (sx_set (i := 4) (se_callC c_self (hr.mono (by omega)) tk (sa_cons (se_ix ix_seq s2_ix (mv 3) (se_int) (fun _ _ => rfl)) (sa_cons (mv 1) (sa_nil)))) S.nd)
      (ss_cons (sx_set (i := 5) (se_callC c_items_for (hr.mono (by omega)) tk (sa_cons (mv 1) (sa_cons (se_ix ix_seq s2_ix (mv 3) (se_int) (fun _ _ => rfl)) (sa_nil)))) S.nd)
      (ss_one (sx_if (st_cmp op_isN s2_isN (mv 5) (se_non) (nomark _))
      (ss_one (sx_set (i := 2) (se_callB (call_max2 rfl) sn_max (by rfl) T.b_max (by decide +kernel) (sa_cons (mv 2) (sa_cons (se_bin op_addA s2_add (se_int) (mv 4)) (sa_nil)))) S.nd))
      (ss_one (sx_set (i := 2) (se_callB (call_max2 rfl) sn_max (by rfl) T.b_max (by decide +kernel) (sa_cons (mv 2) (sa_cons (se_callC c_filled_depth (hr.mono (by omega)) tk (sa_cons (mv 5) (sa_cons (mv 4) (sa_nil)))) (sa_nil)))) S.nd)))))))))
      (ss_one (sx_ret (mv 2))))
theorem sc_has_hole : FnScope ["items", "item"] ["items"] (defScope (top 11)) := ⟨rfl, rfl, rfl, by decide +kernel, rfl, by decide +kernel, by decide +kernel⟩
theorem sim_has_hole (T : Txt K mg) (d : Df K mg "has_hole" (top 11) ["items"]) : ∀ n, Cal P w K mg base "has_hole" (n + 1) (m_has_hole_6be3c n)
 | 0 => cal_none d (fun _ _ => rfl)
 | n + 1 => by
  have c_self := sim_has_hole T d n
  obtain ⟨t_HOLE, g_HOLE⟩ := T.g_HOLE
  have e : n + 1 + 1 = (n + 1) + 1 := by omega
  rw [e]
  exact cal_mk (k := n + 1) d sc_has_hole fun f cdv A outer s H E hr => by
   have tk : Takes (cxOf (L2.CX P w) P w K mg base ["items", "item"] "has_hole" (defScope (top 11)) f cdv A outer s H E) (fun c d _ H' => E c d H') := takes_of rfl rfl rfl rfl
   have hu : (A.deeper (PyProof.Rows.envOfC "has_hole" (defScope (top 11)) s.heap.objs.size f cdv)).units + 65 < cLine := by have := hr.un; omega
   have hu2 : (A.deeper (PyProof.Rows.envOfC "has_hole" (defScope (top 11)) s.heap.objs.size f cdv)).units + 0 + 200 < cLine := by have := hr.un; omega
   have S := sc_has_hole
   exact ss_cons (sx_for (passes_of rfl) (si_iter (mv 0)) (sg_name (i := 1) S.nd)
      (ss_one (sx_if ((sw_or (st_cmp (op_eqA (n := 0) hu2) s2_eq (mv 1) (se_globS (by rfl) g_HOLE) (nomark _)) (sw_or1 (st_val (se_callC c_self (hr.mono (by omega)) tk (sa_cons (se_ix ix_seq s2_ix (mv 1) (se_int) (fun _ _ => rfl)) (sa_nil)))))).pt)
      (ss_one (sx_ret (se_bl)))
      (ss_nil))))
      (ss_one (sx_ret (se_bl)))
theorem sc_filled : FnScope ["items", "row", "found", "item"] ["items", "row"] (defScope (top 12)) := ⟨rfl, rfl, rfl, by decide +kernel, rfl, by decide +kernel, by decide +kernel⟩
theorem sim_filled (T : Txt K mg) (d : Df K mg "filled" (top 12) ["items", "row"]) : ∀ n, Cal P w K mg base "filled" (n + 1) (m_filled_1058b n)
 | 0 => cal_none d (fun _ _ => rfl)
 | n + 1 => by
  have c_self := sim_filled T d n
  obtain ⟨t_HOLE, g_HOLE⟩ := T.g_HOLE
  have e : n + 1 + 1 = (n + 1) + 1 := by omega
  rw [e]
  exact cal_mk (k := n + 1) d sc_filled fun f cdv A outer s H E hr => by
   have tk : Takes (cxOf (L2.CX P w) P w K mg base ["items", "row", "found", "item"] "filled" (defScope (top 12)) f cdv A outer s H E) (fun c d _ H' => E c d H') := takes_of rfl rfl rfl rfl
   have hu : (A.deeper (PyProof.Rows.envOfC "filled" (defScope (top 12)) s.heap.objs.size f cdv)).units + 65 < cLine := by have := hr.un; omega
   have hu2 : (A.deeper (PyProof.Rows.envOfC "filled" (defScope (top 12)) s.heap.objs.size f cdv)).units + 0 + 200 < cLine := by have := hr.un; omega
   have S := sc_filled
   exact ss_cons (sx_set (i := 2) (se_lst (sa_nil)) S.nd)
      (ss_cons (sx_for (passes_of rfl) (si_iter (mv 0)) (sg_name (i := 3) S.nd)
      (ss_one (sx_if (st_cmp (op_eqA (n := 0) hu2) s2_eq (mv 3) (se_globS (by rfl) g_HOLE) (nomark _))
      (ss_one (sx_expr (se_bm PySem.F.plainAttrs_list PySem.F.slot_list_extend PySem.F.type_list_extend mt_extend sty_list sm_extend (mv 2) (sa_cons (se_callTy call_list_of sn_list (by rfl) T.b_list (by decide +kernel) (sa_cons (mv 1) (sa_nil))) (sa_nil)))))
      (ss_one (sx_expr (se_bm PySem.F.plainAttrs_list PySem.F.slot_list_append PySem.F.type_list_append mt_append sty_list sm_append (mv 2) (sa_cons (se_tup (sa_cons (se_ix ix_seq s2_ix (mv 3) (se_int) (fun _ _ => rfl)) (sa_cons (se_callC c_self (hr.mono (by omega)) tk (sa_cons (se_ix ix_seq s2_ix (mv 3) (se_int) (fun _ _ => rfl)) (sa_cons (mv 1) (sa_nil)))) (sa_nil)))) (sa_nil))))))))
      (ss_one (sx_ret (se_callTy call_tupF sn_tuple (by rfl) T.b_tuple (by decide +kernel) (sa_cons (mv 2) (sa_nil))))))
theorem sc_chained_items : FnScope ["items", "second", "found", "item", "rule"] ["items", "second"] (defScope (top 17)) := ⟨rfl, rfl, rfl, by decide +kernel, rfl, by decide +kernel, by decide +kernel⟩
theorem sim_chained_items (T : Txt K mg) (d : Df K mg "chained_items" (top 17) ["items", "second"]) (c_items_for : Cal P w K mg base "items_for" 1 (m_items_for_2ec27)) (c_has_hole : Cal P w K mg base "has_hole" 101 (m_has_hole_6be3c 100)) (c_filled : Cal P w K mg base "filled" 101 (m_filled_1058b 100)) : ∀ n, Cal P w K mg base "chained_items" (n + 101) (m_chained_items_6a3ab n)
 | 0 => cal_none d (fun _ _ => rfl)
 | n + 1 => by
  have c_self := sim_chained_items T d c_items_for c_has_hole c_filled n
  obtain ⟨t_HOLE, g_HOLE⟩ := T.g_HOLE
  have e : n + 1 + 101 = (n + 101) + 1 := by omega
  rw [e]
  exact cal_mk (k := n + 101) d sc_chained_items fun f cdv A outer s H E hr => by
   have tk : Takes (cxOf (L2.CX P w) P w K mg base ["items", "second", "found", "item", "rule"] "chained_items" (defScope (top 17)) f cdv A outer s H E) (fun c d _ H' => E c d H') := takes_of rfl rfl rfl rfl
   have hu : (A.deeper (PyProof.Rows.envOfC "chained_items" (defScope (top 17)) s.heap.objs.size f cdv)).units + 65 < cLine := by have := hr.un; omega
   have hu2 : (A.deeper (PyProof.Rows.envOfC "chained_items" (defScope (top 17)) s.heap.objs.size f cdv)).units + 0 + 200 < cLine := by have := hr.un; omega
   have S := sc_chained_items
   exact ss_cons (sx_set (i := 2) (se_lst (sa_nil)) S.nd)
      (ss_cons (sx_for (passes_of rfl) (si_iter (mv 0)) (sg_name (i := 3) S.nd)
      (ss_one (sx_if (st_cmp (op_eqA (n := 0) hu2) s2_eq (mv 3) (se_globS (by rfl) g_HOLE) (nomark _))
      (ss_one (sx_expr (se_bm PySem.F.plainAttrs_list PySem.F.slot_list_append PySem.F.type_list_append mt_append sty_list sm_append (mv 2) (sa_cons (mv 3) (sa_nil)))))
      (ss_cons (sx_set (i := 4) (se_callC c_items_for (hr.mono (by omega)) tk (sa_cons (mv 1) (sa_cons (se_ix ix_seq s2_ix (mv 3) (se_int) (fun _ _ => rfl)) (sa_nil)))) S.nd)
      (ss_one (sx_if (st_cmp op_isN s2_isN (mv 4) (se_non) (nomark _))
      (ss_one (sx_expr (se_bm PySem.F.plainAttrs_list PySem.F.slot_list_append PySem.F.type_list_append mt_append sty_list sm_append (mv 2) (sa_cons (se_tup (sa_cons (se_ix ix_seq s2_ix (mv 3) (se_int) (fun _ _ => rfl)) (sa_cons (se_callC c_self (hr.mono (by omega)) tk (sa_cons (se_ix ix_seq s2_ix (mv 3) (se_int) (fun _ _ => rfl)) (sa_cons (mv 1) (sa_nil)))) (sa_nil)))) (sa_nil)))))
      (ss_one (sx_if (st_val (se_callC c_has_hole (hr.mono (by omega)) tk (sa_cons (mv 4) (sa_nil))))
      (ss_one (sx_expr (se_bm PySem.F.plainAttrs_list PySem.F.slot_list_extend PySem.F.type_list_extend mt_extend sty_list sm_extend (mv 2) (sa_cons (se_callTy call_list_of sn_list (by rfl) T.b_list (by decide +kernel) (sa_cons (se_callC c_filled (hr.mono (by omega)) tk (sa_cons (mv 4) (sa_cons (se_callC c_self (hr.mono (by omega)) tk (sa_cons (se_ix ix_seq s2_ix (mv 3) (se_int) (fun _ _ => rfl)) (sa_cons (mv 1) (sa_nil)))) (sa_nil)))) (sa_nil))) (sa_nil)))))
      (ss_one (sx_expr (se_bm PySem.F.plainAttrs_list PySem.F.slot_list_extend PySem.F.type_list_extend mt_extend sty_list sm_extend (mv 2) (sa_cons (se_callTy call_list_of sn_list (by rfl) T.b_list (by decide +kernel) (sa_cons (mv 4) (sa_nil))) (sa_nil)))))))))))))
      (ss_one (sx_ret (se_callTy call_tupF sn_tuple (by rfl) T.b_tuple (by decide +kernel) (sa_cons (mv 2) (sa_nil))))))
theorem sc_chained : FnScope ["first", "second", "rules", "rule"] ["first", "second"] (defScope (top 18)) := ⟨rfl, rfl, rfl, by decide +kernel, rfl, by decide +kernel, by decide +kernel⟩
theorem sim_chained (T : Txt K mg) (d : Df K mg "chained" (top 18) ["first", "second"]) (c_items_for : Cal P w K mg base "items_for" 1 (m_items_for_2ec27)) (c_chained_depth : Cal P w K mg base "chained_depth" 201 (m_chained_depth_b220a 100)) (c_chained_size : Cal P w K mg base "chained_size" 201 (m_chained_size_ac0f3 100)) (c_chained_items : Cal P w K mg base "chained_items" 201 (m_chained_items_6a3ab 100)) : Cal P w K mg base "chained" 202 (m_chained_3458f) := by
  obtain ⟨t_HOLE, g_HOLE⟩ := T.g_HOLE
  obtain ⟨t_ITEMS, g_ITEMS⟩ := T.g_ITEMS
  obtain ⟨t_NESTED, g_NESTED⟩ := T.g_NESTED
  obtain ⟨t_TURNS, g_TURNS⟩ := T.g_TURNS
  exact cal_mk (k := 201) d sc_chained fun f cdv A outer s H E hr => by
   have tk : Takes (cxOf (L2.CX P w) P w K mg base ["first", "second", "rules", "rule"] "chained" (defScope (top 18)) f cdv A outer s H E) (fun c d _ H' => E c d H') := takes_of rfl rfl rfl rfl
   have hu : (A.deeper (PyProof.Rows.envOfC "chained" (defScope (top 18)) s.heap.objs.size f cdv)).units + 65 < cLine := by have := hr.un; omega
   have hu2 : (A.deeper (PyProof.Rows.envOfC "chained" (defScope (top 18)) s.heap.objs.size f cdv)).units + 0 + 200 < cLine := by have := hr.un; omega
   have S := sc_chained
   exact ss_cons (sx_set (i := 2) (se_callTy call_list_of sn_list (by rfl) T.b_list (by decide +kernel) (sa_cons (mv 0) (sa_nil))) S.nd)
      (ss_cons (sx_for (passes_of rfl) (si_iter (mv 1)) (sg_name (i := 3) S.nd)
      (ss_one (sx_if (st_cmp op_isN s2_isN (se_callC c_items_for (hr.mono (by omega)) tk (sa_cons (mv 0) (sa_cons (se_ix ix_seq s2_ix (mv 3) (se_int) (fun _ _ => rfl)) (sa_nil)))) (se_non) (nomark _))
      (ss_one (sx_expr (se_bm PySem.F.plainAttrs_list PySem.F.slot_list_append PySem.F.type_list_append mt_append sty_list sm_append (mv 2) (sa_cons (se_tup (sa_cons (se_ix ix_seq s2_ix (mv 3) (se_int) (fun _ _ => rfl)) (sa_cons (se_tup (sa_cons (se_tup (sa_cons (se_ix ix_seq s2_ix (mv 3) (se_int) (fun _ _ => rfl)) (sa_cons (se_tup (sa_cons (se_globS (by rfl) g_HOLE) (sa_nil))) (sa_nil)))) (sa_nil))) (sa_nil)))) (sa_nil)))))
      (ss_nil))))
      (ss_cons (sx_if (st_cmp op_gt s2_gt (se_callB call_len sn_len (by rfl) T.b_len (by decide +kernel) (sa_cons (mv 2) (sa_nil))) (se_globI (by rfl) g_TURNS) (nomark _))
      (ss_one (sx_raise0 T.r_TooMany tk))
      (ss_nil))
      (ss_cons (sx_for (passes_of rfl) (si_iter (mv 2)) (sg_name (i := 3) S.nd)
      (ss_one (sx_if ((sw_or (st_cmp op_gt s2_gt (se_callC c_chained_size (hr.mono (by omega)) tk (sa_cons (se_ix ix_seq s2_ix (mv 3) (se_int) (fun _ _ => rfl)) (sa_cons (mv 1) (sa_nil)))) (se_globI (by rfl) g_ITEMS) (nomark _)) (sw_or1 (st_cmp op_gt s2_gt (se_callC c_chained_depth (hr.mono (by omega)) tk (sa_cons (se_ix ix_seq s2_ix (mv 3) (se_int) (fun _ _ => rfl)) (sa_cons (mv 1) (sa_nil)))) (se_globI (by rfl) g_NESTED) (nomark _)))).pt)
      (ss_one (sx_raise0 T.r_TooMany tk))
      (ss_nil))))
      (ss_one (sx_ret (se_callTy call_tupF sn_tuple (by rfl) T.b_tuple (by decide +kernel) (sa_cons (se_lc (own := [("rule", 3)]) S.nd (si_iter (mv 2)) (blkOk_by (N := ["first", "second", "rules", "rule"]) (sc := defScope (top 18)) (by decide +kernel)) (tg_name 3) (fun _ _ _ _ _ => pg_name (i := 3) S.nd rfl (by first | exact Or.inl rfl | exact Or.inr rfl)) (fun _ _ _ _ _ => st_nil) (fun _ _ _ _ _ => se_tup (sa_cons (se_ix ix_seq s2_ix (mv 3) (se_int) (fun _ _ => rfl)) (sa_cons (se_callC c_chained_items (hr.mono (by omega)) takes0 (sa_cons (se_ix ix_seq s2_ix (mv 3) (se_int) (fun _ _ => rfl)) (sa_cons (mv 1) (sa_nil)))) (sa_nil))))) (sa_nil))))))))
theorem sc__law_plain : FnScope ["_law_pool", "_law_name"] ["_law_pool"] (defScope (top 39)) := ⟨rfl, rfl, rfl, by decide +kernel, rfl, by decide +kernel, by decide +kernel⟩
theorem sim__law_plain (T : Txt K mg) (d : Df K mg "_law_plain" (top 39) ["_law_pool"]) : Cal P w K mg base "_law_plain" 1 (m_plain_f8b51) := by
  exact cal_mk (k := 0) d sc__law_plain fun f cdv A outer s H E hr => by
   have tk : Takes (cxOf (L2.CX P w) P w K mg base ["_law_pool", "_law_name"] "_law_plain" (defScope (top 39)) f cdv A outer s H E) (fun c d _ H' => E c d H') := takes_of rfl rfl rfl rfl
   have hu : (A.deeper (PyProof.Rows.envOfC "_law_plain" (defScope (top 39)) s.heap.objs.size f cdv)).units + 65 < cLine := by have := hr.un; omega
   have hu2 : (A.deeper (PyProof.Rows.envOfC "_law_plain" (defScope (top 39)) s.heap.objs.size f cdv)).units + 0 + 200 < cLine := by have := hr.un; omega
   have S := sc__law_plain
   exact ss_cons (sx_for (passes_of rfl) (si_iter (se_lst (sa_cons (se_str) (sa_cons (se_str) (sa_cons (se_str) (sa_cons (se_str) (sa_nil))))))) (sg_name (i := 1) S.nd)
      (ss_one (sx_if (st_cmp (op_notInA (n := 0) hu2) s2_notIn (mv 1) (mv 0) rfl)
      (ss_one (sx_ret (mv 1)))
      (ss_nil))))
      (ss_one (sx_ret (se_str)))
theorem sc__law_same : FnScope ["_law_found", "_law_due", "_law_a", "_law_b"] ["_law_found", "_law_due"] (defScope (top 31)) := ⟨rfl, rfl, rfl, by decide +kernel, rfl, by decide +kernel, by decide +kernel⟩
theorem sim__law_same (T : Txt K mg) (d : Df K mg "_law_same" (top 31) ["_law_found", "_law_due"]) : ∀ n, Cal P w K mg base "_law_same" (n + 1) (m_same_3d8da n)
 | 0 => cal_none d (fun _ _ => rfl)
 | n + 1 => by
  have c_self := sim__law_same T d n
  have e : n + 1 + 1 = (n + 1) + 1 := by omega
  rw [e]
  exact cal_mk (k := n + 1) d sc__law_same fun f cdv A outer s H E hr => by
   have tk : Takes (cxOf (L2.CX P w) P w K mg base ["_law_found", "_law_due", "_law_a", "_law_b"] "_law_same" (defScope (top 31)) f cdv A outer s H E) (fun c d _ H' => E c d H') := takes_of rfl rfl rfl rfl
   have hu : (A.deeper (PyProof.Rows.envOfC "_law_same" (defScope (top 31)) s.heap.objs.size f cdv)).units + 65 < cLine := by have := hr.un; omega
   have hu2 : (A.deeper (PyProof.Rows.envOfC "_law_same" (defScope (top 31)) s.heap.objs.size f cdv)).units + 0 + 200 < cLine := by have := hr.un; omega
   have S := sc__law_same
   exact ss_cons (sx_if (st_val (se_isi (mv 1) T.b_isinstance T.b_tuple (by decide +kernel)))
      (ss_cons (sx_if ((sw_or (st_not (st_val (se_isi (mv 0) T.b_isinstance T.b_tuple (by decide +kernel)))) (sw_or1 (st_cmp (op_neA (n := 0) hu2) s2_ne (se_callB call_len sn_len (by rfl) T.b_len (by decide +kernel) (sa_cons (mv 0) (sa_nil))) (se_callB call_len sn_len (by rfl) T.b_len (by decide +kernel) (sa_cons (mv 1) (sa_nil))) (nomark _)))).pt)
      (ss_one (sx_ret (se_bl)))
      (ss_nil))
      (ss_one (sx_ret (se_callB (cr_all rfl) sn_all (by rfl) T.b_all (by decide +kernel) (sa_cons (se_lc (own := [("_law_a", 2), ("_law_b", 3)]) S.nd (si_zipT T.b_zip (mv 0) (mv 1)) (blkOk_by (N := ["_law_found", "_law_due", "_law_a", "_law_b"]) (sc := defScope (top 31)) (by decide +kernel)) (tg_pairZ (j := 2) (k := 3) (by decide)) (fun _ _ _ _ _ => pg_tup rfl (pgs_cons (pg_name (i := 2) S.nd rfl (by first | exact Or.inl rfl | exact Or.inr rfl)) (pgs_cons (pg_name (i := 3) S.nd rfl (by first | exact Or.inl rfl | exact Or.inr rfl)) pgs_nil))) (fun _ _ _ _ _ => st_nil) (fun _ _ _ _ _ => se_callC c_self (hr.mono (by omega)) takes0 (sa_cons (mv 2) (sa_cons (mv 3) (sa_nil))))) (sa_nil))))))
      (ss_nil))
      (ss_cons (sx_if (st_val (se_isi (mv 1) T.b_isinstance T.b_str (by decide +kernel)))
      (ss_one (sx_ret (se_and (se_isi (mv 0) T.b_isinstance T.b_str (by decide +kernel)) (se_one (se_cmp (op_eqA (n := 0) hu2) s2_eq (mv 0) (mv 1) (nomark _))))))
      (ss_nil))
      (ss_one (sx_ret (se_and (se_isi (mv 0) T.b_isinstance T.b_int (by decide +kernel)) (se_and (se_not (se_isi (mv 0) T.b_isinstance T.b_bool (by decide +kernel))) (se_one (se_cmp (op_eqA (n := 0) hu2) s2_eq (mv 0) (mv 1) (nomark _))))))))
theorem sc__law_items_ok : FnScope ["_law_items_here", "_law_item"] ["_law_items_here"] (defScope (top 34)) := ⟨rfl, rfl, rfl, by decide +kernel, rfl, by decide +kernel, by decide +kernel⟩
theorem sim__law_items_ok (T : Txt K mg) (d : Df K mg "_law_items_ok" (top 34) ["_law_items_here"]) : ∀ n, Cal P w K mg base "_law_items_ok" (n + 1) (m_items_ok_00e70 n)
 | 0 => cal_none d (fun _ _ => rfl)
 | n + 1 => by
  have c_self := sim__law_items_ok T d n
  have e : n + 1 + 1 = (n + 1) + 1 := by omega
  rw [e]
  exact cal_mk (k := n + 1) d sc__law_items_ok fun f cdv A outer s H E hr => by
   have tk : Takes (cxOf (L2.CX P w) P w K mg base ["_law_items_here", "_law_item"] "_law_items_ok" (defScope (top 34)) f cdv A outer s H E) (fun c d _ H' => E c d H') := takes_of rfl rfl rfl rfl
   have hu : (A.deeper (PyProof.Rows.envOfC "_law_items_ok" (defScope (top 34)) s.heap.objs.size f cdv)).units + 65 < cLine := by have := hr.un; omega
   have hu2 : (A.deeper (PyProof.Rows.envOfC "_law_items_ok" (defScope (top 34)) s.heap.objs.size f cdv)).units + 0 + 200 < cLine := by have := hr.un; omega
   have S := sc__law_items_ok
   exact ss_cons (sx_if (st_not (st_val (se_isi (mv 0) T.b_isinstance T.b_tuple (by decide +kernel))))
      (ss_one (sx_ret (se_bl)))
      (ss_nil))
      (ss_cons (sx_for (passes_of rfl) (si_iter (mv 0)) (sg_name (i := 1) S.nd)
      (ss_one (sx_if (st_val (se_isi (mv 1) T.b_isinstance T.b_str (by decide +kernel)))
      (ss_one (sx_if (st_cmp (op_neA (n := 0) hu2) s2_ne (mv 1) (se_str) (nomark _))
      (ss_one (sx_ret (se_bl)))
      (ss_nil)))
      (ss_one (sx_if ((sw_or (st_not (st_val (se_isi (mv 1) T.b_isinstance T.b_tuple (by decide +kernel)))) (sw_or (st_cmp (op_neA (n := 0) hu2) s2_ne (se_callB call_len sn_len (by rfl) T.b_len (by decide +kernel) (sa_cons (mv 1) (sa_nil))) (se_int) (nomark _)) (sw_or1 (st_not (st_val (se_isi (se_ix ix_seq s2_ix (mv 1) (se_int) (fun _ _ => rfl)) T.b_isinstance T.b_str (by decide +kernel))))))).pt)
      (ss_one (sx_ret (se_bl)))
      (ss_one (sx_if (st_not (st_val (se_callC c_self (hr.mono (by omega)) tk (sa_cons (se_ix ix_seq s2_ix (mv 1) (se_int) (fun _ _ => rfl)) (sa_nil)))))
      (ss_one (sx_ret (se_bl)))
      (ss_nil))))))))
      (ss_one (sx_ret (se_bl))))
theorem sc__law_told_ok : FnScope ["_law_found", "_law_names_here", "_law_k"] ["_law_found", "_law_names_here"] (defScope (top 35)) := ⟨rfl, rfl, rfl, by decide +kernel, rfl, by decide +kernel, by decide +kernel⟩
theorem sim__law_told_ok (T : Txt K mg) (d : Df K mg "_law_told_ok" (top 35) ["_law_found", "_law_names_here"]) (c__law_items_ok : Cal P w K mg base "_law_items_ok" 101 (m_items_ok_00e70 100)) (c__law_same : Cal P w K mg base "_law_same" 171 (m_same_3d8da 170)) : Cal P w K mg base "_law_told_ok" 172 (m_told_ok_bc759) := by
  exact cal_mk (k := 171) d sc__law_told_ok fun f cdv A outer s H E hr => by
   have tk : Takes (cxOf (L2.CX P w) P w K mg base ["_law_found", "_law_names_here", "_law_k"] "_law_told_ok" (defScope (top 35)) f cdv A outer s H E) (fun c d _ H' => E c d H') := takes_of rfl rfl rfl rfl
   have hu : (A.deeper (PyProof.Rows.envOfC "_law_told_ok" (defScope (top 35)) s.heap.objs.size f cdv)).units + 65 < cLine := by have := hr.un; omega
   have hu2 : (A.deeper (PyProof.Rows.envOfC "_law_told_ok" (defScope (top 35)) s.heap.objs.size f cdv)).units + 0 + 200 < cLine := by have := hr.un; omega
   have S := sc__law_told_ok
   exact ss_cons (sx_if ((sw_or (st_not (st_val (se_isi (mv 0) T.b_isinstance T.b_tuple (by decide +kernel)))) (sw_or1 (st_cmp (op_neA (n := 0) hu2) s2_ne (se_callB call_len sn_len (by rfl) T.b_len (by decide +kernel) (sa_cons (mv 0) (sa_nil))) (se_callB call_len sn_len (by rfl) T.b_len (by decide +kernel) (sa_cons (mv 1) (sa_nil))) (nomark _)))).pt)
      (ss_one (sx_ret (se_bl)))
      (ss_nil))
      (ss_cons (sx_for (passes_of rfl) (si_range1 T.b_range (se_callB call_len sn_len (by rfl) T.b_len (by decide +kernel) (sa_cons (mv 1) (sa_nil)))) (sg_name (i := 2) S.nd)
      (ss_cons (sx_if ((sw_or (st_not (st_val (se_isi (se_ix ix_seq s2_ix (mv 0) (mv 2) (fun _ _ => rfl)) T.b_isinstance T.b_tuple (by decide +kernel)))) (sw_or1 (st_cmp (op_neA (n := 0) hu2) s2_ne (se_callB call_len sn_len (by rfl) T.b_len (by decide +kernel) (sa_cons (se_ix ix_seq s2_ix (mv 0) (mv 2) (fun _ _ => rfl)) (sa_nil))) (se_int) (nomark _)))).pt)
      (ss_one (sx_ret (se_bl)))
      (ss_nil))
      (ss_one (sx_if ((sw_or (st_not (st_val (se_callC c__law_same (hr.mono (by omega)) tk (sa_cons (se_ix ix_seq s2_ix (se_ix ix_seq s2_ix (mv 0) (mv 2) (fun _ _ => rfl)) (se_int) (fun _ _ => rfl)) (sa_cons (se_ix ix_seq s2_ix (mv 1) (mv 2) (fun _ _ => rfl)) (sa_nil)))))) (sw_or1 (st_not (st_val (se_callC c__law_items_ok (hr.mono (by omega)) tk (sa_cons (se_ix ix_seq s2_ix (se_ix ix_seq s2_ix (mv 0) (mv 2) (fun _ _ => rfl)) (se_int) (fun _ _ => rfl)) (sa_nil))))))).pt)
      (ss_one (sx_ret (se_bl)))
      (ss_nil)))))
      (ss_one (sx_ret (se_bl))))
theorem sc__law_free_docs : FnScope ["_law_cells", "_law_pool", "_law_way", "_law_kids", "_law_k", "_law_docs", "_law_number", "_law_above", "_law_j"] ["_law_cells", "_law_pool"] (defScope (top 27)) := ⟨rfl, rfl, rfl, by decide +kernel, rfl, by decide +kernel, by decide +kernel⟩
theorem sim__law_free_docs (T : Txt K mg) (d : Df K mg "_law_free_docs" (top 27) ["_law_cells", "_law_pool"]) : Cal P w K mg base "_law_free_docs" 1 (m_free_docs_275c6) := by
  exact cal_mk (k := 0) d sc__law_free_docs fun f cdv A outer s H E hr => by
   have tk : Takes (cxOf (L2.CX P w) P w K mg base ["_law_cells", "_law_pool", "_law_way", "_law_kids", "_law_k", "_law_docs", "_law_number", "_law_above", "_law_j"] "_law_free_docs" (defScope (top 27)) f cdv A outer s H E) (fun c d _ H' => E c d H') := takes_of rfl rfl rfl rfl
   have hu : (A.deeper (PyProof.Rows.envOfC "_law_free_docs" (defScope (top 27)) s.heap.objs.size f cdv)).units + 65 < cLine := by have := hr.un; omega
   have hu2 : (A.deeper (PyProof.Rows.envOfC "_law_free_docs" (defScope (top 27)) s.heap.objs.size f cdv)).units + 0 + 200 < cLine := by have := hr.un; omega
   have S := sc__law_free_docs
   exact ss_cons (sx_set (i := 2) (se_bin op_mod s2_mod (se_ix ix_seq s2_ix (mv 0) (se_int) (fun _ _ => rfl)) (se_int)) S.nd)
      (ss_cons ((by first | exact sx_setLc (own := [("_law_k", 4)]) (i := 3) S.nd (si_iter (mv 0)) (blkOk_by (N := ["_law_cells", "_law_pool", "_law_way", "_law_kids", "_law_k", "_law_docs", "_law_number", "_law_above", "_law_j"]) (sc := defScope (top 27)) (by decide +kernel)) (tg_name 4) (fun _ _ _ _ _ => pg_name (i := 4) S.nd rfl (by first | exact Or.inl rfl | exact Or.inr rfl)) (fun _ _ _ _ _ => st_nil) (fun _ _ _ _ _ => se_lst (sa_nil)) | exact sx_set (i := 3) (se_lc (own := [("_law_k", 4)]) S.nd (si_iter (mv 0)) (blkOk_by (N := ["_law_cells", "_law_pool", "_law_way", "_law_kids", "_law_k", "_law_docs", "_law_number", "_law_above", "_law_j"]) (sc := defScope (top 27)) (by decide +kernel)) (tg_name 4) (fun _ _ _ _ _ => pg_name (i := 4) S.nd rfl (by first | exact Or.inl rfl | exact Or.inr rfl)) (fun _ _ _ _ _ => st_nil) (fun _ _ _ _ _ => se_lst (sa_nil))) S.nd))
      (ss_cons (sx_for (passes_of rfl) (si_range2 T.b_range (se_int) (se_callB call_len sn_len (by rfl) T.b_len (by decide +kernel) (sa_cons (mv 0) (sa_nil)))) (sg_name (i := 4) S.nd)
      (ss_cons (sx_set (i := 6) (se_bin op_fdivW s2_fdiv (se_bin op_mod s2_mod (se_bin op_mulA s2_mul (se_ix ix_seq s2_ix (mv 0) (mv 4) (fun _ _ => rfl)) (se_int)) (se_int)) (se_int)) S.nd)
      (ss_cons (sx_set (i := 7) (se_ix ix_seq s2_ix (se_lst (sa_cons (se_bin op_mod s2_mod (mv 6) (mv 4)) (sa_cons (se_bin op_sub s2_sub (mv 4) (se_int)) (sa_cons (se_int) (sa_cons (se_bin op_sub s2_sub (se_bin op_sub s2_sub (mv 4) (se_int)) (se_bin op_mod s2_mod (mv 6) (se_callB (call_min2 rfl) sn_min (by rfl) T.b_min (by decide +kernel) (sa_cons (mv 4) (sa_cons (se_int) (sa_nil)))))) (sa_nil)))))) (mv 2) (fun _ _ => rfl)) S.nd)
      (ss_one (sx_expr (se_bm PySem.F.plainAttrs_list PySem.F.slot_list_append PySem.F.type_list_append mt_append sty_list sm_append (se_ix ix_seq s2_ix (mv 3) (mv 7) (fun _ _ => rfl)) (sa_cons (mv 4) (sa_nil))))))))
      (ss_cons ((by first | exact sx_setLc (own := [("_law_k", 4)]) (i := 5) S.nd (si_iter (mv 0)) (blkOk_by (N := ["_law_cells", "_law_pool", "_law_way", "_law_kids", "_law_k", "_law_docs", "_law_number", "_law_above", "_law_j"]) (sc := defScope (top 27)) (by decide +kernel)) (tg_name 4) (fun _ _ _ _ _ => pg_name (i := 4) S.nd rfl (by first | exact Or.inl rfl | exact Or.inr rfl)) (fun _ _ _ _ _ => st_nil) (fun _ _ _ _ _ => se_non) | exact sx_set (i := 5) (se_lc (own := [("_law_k", 4)]) S.nd (si_iter (mv 0)) (blkOk_by (N := ["_law_cells", "_law_pool", "_law_way", "_law_kids", "_law_k", "_law_docs", "_law_number", "_law_above", "_law_j"]) (sc := defScope (top 27)) (by decide +kernel)) (tg_name 4) (fun _ _ _ _ _ => pg_name (i := 4) S.nd rfl (by first | exact Or.inl rfl | exact Or.inr rfl)) (fun _ _ _ _ _ => st_nil) (fun _ _ _ _ _ => se_non)) S.nd))
      (ss_cons (sx_for (passes_of rfl) (si_rev1 T.b_reversed T.b_range (se_callB call_len sn_len (by rfl) T.b_len (by decide +kernel) (sa_cons (mv 0) (sa_nil)))) (sg_name (i := 4) S.nd)
      (ss_one (sx_setIx (mv 5) (mv 4) (se_tup (sa_cons (se_ix ix_seq s2_ix (mv 1) (se_bin op_mod s2_mod (se_bin op_fdivW s2_fdiv (se_ix ix_seq s2_ix (mv 0) (mv 4) (fun _ _ => rfl)) (se_int)) (se_int)) (fun _ _ => rfl)) (sa_cons (se_callTy call_tupF sn_tuple (by rfl) T.b_tuple (by decide +kernel) (sa_cons (se_lc (own := [("_law_j", 8)]) S.nd (si_iter (se_ix ix_seq s2_ix (mv 3) (mv 4) (fun _ _ => rfl))) (blkOk_by (N := ["_law_cells", "_law_pool", "_law_way", "_law_kids", "_law_k", "_law_docs", "_law_number", "_law_above", "_law_j"]) (sc := defScope (top 27)) (by decide +kernel)) (tg_name 8) (fun _ _ _ _ _ => pg_name (i := 8) S.nd rfl (by first | exact Or.inl rfl | exact Or.inr rfl)) (fun _ _ _ _ _ => st_nil) (fun _ _ _ _ _ => se_ix ix_seq s2_ix (mv 5) (mv 8) (fun _ _ => rfl))) (sa_nil))) (sa_nil)))))))
      (ss_one (sx_ret (se_tup (sa_cons (mv 5) (sa_cons (mv 3) (sa_nil))))))))))
theorem sc__law_full : FnScope ["_law_items_here", "_law_row", "_law_found", "_law_item"] ["_law_items_here", "_law_row"] (defScope (top 30)) := ⟨rfl, rfl, rfl, by decide +kernel, rfl, by decide +kernel, by decide +kernel⟩
theorem sim__law_full (T : Txt K mg) (d : Df K mg "_law_full" (top 30) ["_law_items_here", "_law_row"]) : ∀ n, Cal P w K mg base "_law_full" (n + 1) (m_full_cf168 n)
 | 0 => cal_none d (fun _ _ => rfl)
 | n + 1 => by
  have c_self := sim__law_full T d n
  have e : n + 1 + 1 = (n + 1) + 1 := by omega
  rw [e]
  exact cal_mk (k := n + 1) d sc__law_full fun f cdv A outer s H E hr => by
   have tk : Takes (cxOf (L2.CX P w) P w K mg base ["_law_items_here", "_law_row", "_law_found", "_law_item"] "_law_full" (defScope (top 30)) f cdv A outer s H E) (fun c d _ H' => E c d H') := takes_of rfl rfl rfl rfl
   have hu : (A.deeper (PyProof.Rows.envOfC "_law_full" (defScope (top 30)) s.heap.objs.size f cdv)).units + 65 < cLine := by have := hr.un; omega
   have hu2 : (A.deeper (PyProof.Rows.envOfC "_law_full" (defScope (top 30)) s.heap.objs.size f cdv)).units + 0 + 200 < cLine := by have := hr.un; omega
   have S := sc__law_full
   exact ss_cons (sx_set (i := 2) (se_lst (sa_nil)) S.nd)
      (ss_cons (sx_for (passes_of rfl) (si_iter (mv 0)) (sg_name (i := 3) S.nd)
      (ss_one (sx_if (st_cmp (op_eqA (n := 0) hu2) s2_eq (mv 3) (se_str) (nomark _))
      (ss_one (sx_expr (se_bm PySem.F.plainAttrs_list PySem.F.slot_list_extend PySem.F.type_list_extend mt_extend sty_list sm_extend (mv 2) (sa_cons (mv 1) (sa_nil)))))
      (ss_one (sx_expr (se_bm PySem.F.plainAttrs_list PySem.F.slot_list_append PySem.F.type_list_append mt_append sty_list sm_append (mv 2) (sa_cons (se_tup (sa_cons (se_ix ix_seq s2_ix (mv 3) (se_int) (fun _ _ => rfl)) (sa_cons (se_callTy call_tupF sn_tuple (by rfl) T.b_tuple (by decide +kernel) (sa_cons (se_callC c_self (hr.mono (by omega)) tk (sa_cons (se_ix ix_seq s2_ix (mv 3) (se_int) (fun _ _ => rfl)) (sa_cons (mv 1) (sa_nil)))) (sa_nil))) (sa_nil)))) (sa_nil))))))))
      (ss_one (sx_ret (mv 2))))
theorem sc__law_turn : FnScope ["_law_rules", "_law_doc", "_law_row", "_law_child", "_law_items_here"] ["_law_rules", "_law_doc"] (defScope (top 37)) := ⟨rfl, rfl, rfl, by decide +kernel, rfl, by decide +kernel, by decide +kernel⟩
theorem sim__law_turn (T : Txt K mg) (d : Df K mg "_law_turn" (top 37) ["_law_rules", "_law_doc"]) (c__law_for : Cal P w K mg base "_law_for" 1 (m_for_39fc1)) (c__law_full : Cal P w K mg base "_law_full" 101 (m_full_cf168 100)) : ∀ n, Cal P w K mg base "_law_turn" (n + 101) (m_turn_d7ca0 n)
 | 0 => cal_none d (fun _ _ => rfl)
 | n + 1 => by
  have c_self := sim__law_turn T d c__law_for c__law_full n
  have e : n + 1 + 101 = (n + 101) + 1 := by omega
  rw [e]
  exact cal_mk (k := n + 101) d sc__law_turn fun f cdv A outer s H E hr => by
   have tk : Takes (cxOf (L2.CX P w) P w K mg base ["_law_rules", "_law_doc", "_law_row", "_law_child", "_law_items_here"] "_law_turn" (defScope (top 37)) f cdv A outer s H E) (fun c d _ H' => E c d H') := takes_of rfl rfl rfl rfl
   have hu : (A.deeper (PyProof.Rows.envOfC "_law_turn" (defScope (top 37)) s.heap.objs.size f cdv)).units + 65 < cLine := by have := hr.un; omega
   have hu2 : (A.deeper (PyProof.Rows.envOfC "_law_turn" (defScope (top 37)) s.heap.objs.size f cdv)).units + 0 + 200 < cLine := by have := hr.un; omega
   have S := sc__law_turn
   exact ss_cons (sx_set (i := 2) (se_lst (sa_nil)) S.nd)
      (ss_cons (sx_for (passes_of rfl) (si_iter (se_ix ix_seq s2_ix (mv 1) (se_int) (fun _ _ => rfl))) (sg_name (i := 3) S.nd)
      (ss_one (sx_expr (se_bm PySem.F.plainAttrs_list PySem.F.slot_list_extend PySem.F.type_list_extend mt_extend sty_list sm_extend (mv 2) (sa_cons (se_callC c_self (hr.mono (by omega)) tk (sa_cons (mv 0) (sa_cons (mv 3) (sa_nil)))) (sa_nil))))))
      (ss_cons (sx_set (i := 4) (se_callC c__law_for (hr.mono (by omega)) tk (sa_cons (mv 0) (sa_cons (se_ix ix_seq s2_ix (mv 1) (se_int) (fun _ _ => rfl)) (sa_nil)))) S.nd)
      (ss_cons (sx_if (st_cmp (op_eqA (n := 0) hu2) s2_eq (mv 4) (se_tup (sa_cons (se_ix ix_seq s2_ix (mv 1) (se_int) (fun _ _ => rfl)) (sa_nil))) (nomark _))
      (ss_one (sx_ret (se_lst (sa_cons (se_tup (sa_cons (se_ix ix_seq s2_ix (mv 1) (se_int) (fun _ _ => rfl)) (sa_cons (se_callTy call_tupF sn_tuple (by rfl) T.b_tuple (by decide +kernel) (sa_cons (mv 2) (sa_nil))) (sa_nil)))) (sa_nil)))))
      (ss_nil))
      (ss_one (sx_ret (se_callC c__law_full (hr.mono (by omega)) tk (sa_cons (mv 4) (sa_cons (mv 2) (sa_nil)))))))))
theorem sc__law_weight : FnScope ["_law_rules", "_law_doc", "_law_size_here", "_law_most", "_law_child", "_law_items_here", "_law_part"] ["_law_rules", "_law_doc"] (defScope (top 36)) := ⟨rfl, rfl, rfl, by decide +kernel, rfl, by decide +kernel, by decide +kernel⟩
theorem sim__law_weight (T : Txt K mg) (d : Df K mg "_law_weight" (top 36) ["_law_rules", "_law_doc"]) (c__law_for : Cal P w K mg base "_law_for" 1 (m_for_39fc1)) (c__law_size : Cal P w K mg base "_law_size" 101 (m_size_05894 100)) : ∀ n, Cal P w K mg base "_law_weight" (n + 101) (m_weight_cea8b n)
 | 0 => cal_none d (fun _ _ => rfl)
 | n + 1 => by
  have c_self := sim__law_weight T d c__law_for c__law_size n
  have e : n + 1 + 101 = (n + 101) + 1 := by omega
  rw [e]
  exact cal_mk (k := n + 101) d sc__law_weight fun f cdv A outer s H E hr => by
   have tk : Takes (cxOf (L2.CX P w) P w K mg base ["_law_rules", "_law_doc", "_law_size_here", "_law_most", "_law_child", "_law_items_here", "_law_part"] "_law_weight" (defScope (top 36)) f cdv A outer s H E) (fun c d _ H' => E c d H') := takes_of rfl rfl rfl rfl
   have hu : (A.deeper (PyProof.Rows.envOfC "_law_weight" (defScope (top 36)) s.heap.objs.size f cdv)).units + 65 < cLine := by have := hr.un; omega
   have hu2 : (A.deeper (PyProof.Rows.envOfC "_law_weight" (defScope (top 36)) s.heap.objs.size f cdv)).units + 0 + 200 < cLine := by have := hr.un; omega
   have S := sc__law_weight
   exact ss_cons (sx_set (i := 2) (se_int) S.nd)
      (ss_cons (sx_set (i := 3) (se_int) S.nd)
      (ss_cons (sx_for (passes_of rfl) (si_iter (se_ix ix_seq s2_ix (mv 1) (se_int) (fun _ _ => rfl))) (sg_name (i := 4) S.nd)
      (ss_cons (sx_set (i := 6) (se_callC c_self (hr.mono (by omega)) tk (sa_cons (mv 0) (sa_cons (mv 4) (sa_nil)))) S.nd)
      (ss_cons (sx_set (i := 2) (se_bin op_addA s2_add (mv 2) (se_ix ix_seq s2_ix (mv 6) (se_int) (fun _ _ => rfl))) S.nd)
      (ss_one (sx_set (i := 3) (se_callB (call_max2 rfl) sn_max (by rfl) T.b_max (by decide +kernel) (sa_cons (mv 3) (sa_cons (se_ix ix_seq s2_ix (mv 6) (se_int) (fun _ _ => rfl)) (sa_nil)))) S.nd)))))
      (ss_cons (sx_set (i := 5) (se_callC c__law_for (hr.mono (by omega)) tk (sa_cons (mv 0) (sa_cons (se_ix ix_seq s2_ix (mv 1) (se_int) (fun _ _ => rfl)) (sa_nil)))) S.nd)
      (ss_cons (sx_set (i := 2) (se_bin op_addA s2_add (se_int) (mv 2)) S.nd)
      (ss_cons (sx_if (st_cmp (op_neA (n := 0) hu2) s2_ne (mv 5) (se_tup (sa_cons (se_ix ix_seq s2_ix (mv 1) (se_int) (fun _ _ => rfl)) (sa_nil))) (nomark _))
      (ss_one (sx_set (i := 2) (se_callC c__law_size (hr.mono (by omega)) tk (sa_cons (mv 5) (sa_cons (se_bin op_sub s2_sub (mv 2) (se_int)) (sa_nil)))) S.nd))
      (ss_nil))
      (ss_one (sx_ret (se_tup (sa_cons (mv 2) (sa_cons (se_callB (call_max2 rfl) sn_max (by rfl) T.b_max (by decide +kernel) (sa_cons (mv 3) (sa_cons (mv 2) (sa_nil)))) (sa_nil)))))))))))
theorem sc__law_agree : FnScope ["_law_first", "_law_second", "_law_told", "_law_doc", "_law_row", "_law_due", "_law_part"] ["_law_first", "_law_second", "_law_told", "_law_doc"] (defScope (top 38)) := ⟨rfl, rfl, rfl, by decide +kernel, rfl, by decide +kernel, by decide +kernel⟩
theorem sim__law_agree (T : Txt K mg) (d : Df K mg "_law_agree" (top 38) ["_law_first", "_law_second", "_law_told", "_law_doc"]) (c__law_weight : Cal P w K mg base "_law_weight" 201 (m_weight_cea8b 100)) (c__law_turn : Cal P w K mg base "_law_turn" 201 (m_turn_d7ca0 100)) (c__law_same : Cal P w K mg base "_law_same" 171 (m_same_3d8da 170)) : Cal P w K mg base "_law_agree" 202 (m_agree_cecf8) := by
  exact cal_mk (k := 201) d sc__law_agree fun f cdv A outer s H E hr => by
   have tk : Takes (cxOf (L2.CX P w) P w K mg base ["_law_first", "_law_second", "_law_told", "_law_doc", "_law_row", "_law_due", "_law_part"] "_law_agree" (defScope (top 38)) f cdv A outer s H E) (fun c d _ H' => E c d H') := takes_of rfl rfl rfl rfl
   have hu : (A.deeper (PyProof.Rows.envOfC "_law_agree" (defScope (top 38)) s.heap.objs.size f cdv)).units + 65 < cLine := by have := hr.un; omega
   have hu2 : (A.deeper (PyProof.Rows.envOfC "_law_agree" (defScope (top 38)) s.heap.objs.size f cdv)).units + 0 + 200 < cLine := by have := hr.un; omega
   have S := sc__law_agree
   exact ss_cons (sx_if (st_cmp op_gt s2_gt (se_callB (call_max2 rfl) sn_max (by rfl) T.b_max (by decide +kernel) (sa_cons (se_ix ix_seq s2_ix (se_callC c__law_weight (hr.mono (by omega)) tk (sa_cons (mv 0) (sa_cons (mv 3) (sa_nil)))) (se_int) (fun _ _ => rfl)) (sa_cons (se_ix ix_seq s2_ix (se_callC c__law_weight (hr.mono (by omega)) tk (sa_cons (mv 2) (sa_cons (mv 3) (sa_nil)))) (se_int) (fun _ _ => rfl)) (sa_nil)))) (se_int) (nomark _))
      (ss_one (sx_ret (se_bl)))
      (ss_nil))
      (ss_cons (sx_set (i := 4) (se_callC c__law_turn (hr.mono (by omega)) tk (sa_cons (mv 0) (sa_cons (mv 3) (sa_nil)))) S.nd)
      (ss_cons (sx_set (i := 5) (se_lst (sa_nil)) S.nd)
      (ss_cons (sx_for (passes_of rfl) (si_iter (mv 4)) (sg_name (i := 6) S.nd)
      (ss_cons (sx_if (st_cmp op_gt s2_gt (se_ix ix_seq s2_ix (se_callC c__law_weight (hr.mono (by omega)) tk (sa_cons (mv 1) (sa_cons (mv 6) (sa_nil)))) (se_int) (fun _ _ => rfl)) (se_int) (nomark _))
      (ss_one (sx_ret (se_bl)))
      (ss_nil))
      (ss_one (sx_expr (se_bm PySem.F.plainAttrs_list PySem.F.slot_list_extend PySem.F.type_list_extend mt_extend sty_list sm_extend (mv 5) (sa_cons (se_callC c__law_turn (hr.mono (by omega)) tk (sa_cons (mv 1) (sa_cons (mv 6) (sa_nil)))) (sa_nil)))))))
      (ss_one (sx_ret (se_callC c__law_same (hr.mono (by omega)) tk (sa_cons (se_callTy call_tupF sn_tuple (by rfl) T.b_tuple (by decide +kernel) (sa_cons (se_callC c__law_turn (hr.mono (by omega)) tk (sa_cons (mv 2) (sa_cons (mv 3) (sa_nil)))) (sa_nil))) (sa_cons (se_callTy call_tupF sn_tuple (by rfl) T.b_tuple (by decide +kernel) (sa_cons (mv 5) (sa_nil))) (sa_nil)))))))))
theorem sc_law : FnScope ["_law_script", "_law_pool", "_law_others", "_law_first", "_law_second", "_law_names_here", "_law_counts_here", "_law_due", "_law_refused", "_law_found", "e", "_law_leaf", "_law_docs", "_law_cells", "_law_rule", "_law_k", "_law_name", "_law_doc", "_law_letter", "_law_pair"] ["_law_script"] (defScope (top 41)) := ⟨rfl, rfl, rfl, by decide +kernel, rfl, by decide +kernel, by decide +kernel⟩
theorem sim_law {fa : Addr} {fd : FuncData} (T : Txt K mg) (F : Fun K "law" "law" (top 41) fa fd) (c__law_names : Cal P w K mg base "_law_names" 1 (m_names_c11ae)) (c__law_cell_at : Cal P w K mg base "_law_cell_at" 1 (m_cell_at_2c4cb)) (c__law_firsts : Cal P w K mg base "_law_firsts" 103 (m_firsts_3d5cc)) (c__law_turner : Cal P w K mg base "_law_turner" 102 (m_turner_aa784)) (c__law_for : Cal P w K mg base "_law_for" 1 (m_for_39fc1)) (c__law_counts : Cal P w K mg base "_law_counts" 201 (m_counts_fd1bc 100)) (c_chained : Cal P w K mg base "chained" 202 (m_chained_3458f)) (c__law_told_ok : Cal P w K mg base "_law_told_ok" 172 (m_told_ok_bc759)) (c__law_plain : Cal P w K mg base "_law_plain" 1 (m_plain_f8b51)) (c__law_free_docs : Cal P w K mg base "_law_free_docs" 1 (m_free_docs_275c6)) (c__law_agree : Cal P w K mg base "_law_agree" 202 (m_agree_cecf8)) : FnOk P w K mg base (L2.CX P w) 203 fa fd ["_law_script"] (spM (gOf w K) m_law_d94d6) := by
  exact fn_mk (k := 202) F sc_law fun cdv A outer s H E hr => by
   have tk : Takes (cxOf (L2.CX P w) P w K mg base ["_law_script", "_law_pool", "_law_others", "_law_first", "_law_second", "_law_names_here", "_law_counts_here", "_law_due", "_law_refused", "_law_found", "e", "_law_leaf", "_law_docs", "_law_cells", "_law_rule", "_law_k", "_law_name", "_law_doc", "_law_letter", "_law_pair"] "law" (defScope (top 41)) fa cdv A outer s H E) (fun c d _ H' => E c d H') := takes_of rfl rfl rfl rfl
   have hu : (A.deeper (PyProof.Rows.envOfC "law" (defScope (top 41)) s.heap.objs.size fa cdv)).units + 65 < cLine := by have := hr.un; omega
   have hu2 : (A.deeper (PyProof.Rows.envOfC "law" (defScope (top 41)) s.heap.objs.size fa cdv)).units + 0 + 200 < cLine := by have := hr.un; omega
   have S := sc_law
   exact ss_cons (sx_set (i := 1) (se_callC c__law_names (hr.mono (by omega)) tk (sa_cons (se_callC c__law_cell_at (hr.mono (by omega)) tk (sa_cons (mv 0) (sa_cons (se_int) (sa_nil)))) (sa_nil))) S.nd)
      (ss_cons (sx_set (i := 2) (se_ix ix_seq s2_ix (se_lst (sa_cons (mv 1) (sa_cons (se_lc (own := [("_law_letter", 18)]) S.nd (si_iter (se_str)) (blkOk_by (N := ["_law_script", "_law_pool", "_law_others", "_law_first", "_law_second", "_law_names_here", "_law_counts_here", "_law_due", "_law_refused", "_law_found", "e", "_law_leaf", "_law_docs", "_law_cells", "_law_rule", "_law_k", "_law_name", "_law_doc", "_law_letter", "_law_pair"]) (sc := defScope (top 41)) (by decide +kernel)) (tg_name 18) (fun _ _ _ _ _ => pg_name (i := 18) S.nd rfl (by first | exact Or.inl rfl | exact Or.inr rfl)) (fun _ _ _ _ _ => st_nil) (fun _ _ _ _ _ => se_bin op_addA s2_add (mv 18) (se_str))) (sa_nil)))) (se_bin op_mod s2_mod (se_callC c__law_cell_at (hr.mono (by omega)) tk (sa_cons (mv 0) (sa_cons (se_int) (sa_nil)))) (se_int)) (fun _ _ => rfl)) S.nd)
      (ss_cons (sx_set (i := 3) (se_callC c__law_firsts (hr.mono (by omega)) tk (sa_cons (mv 0) (sa_cons (mv 1) (sa_nil)))) S.nd)
      (ss_cons (sx_set (i := 4) (se_callC c__law_turner (hr.mono (by omega)) tk (sa_cons (mv 0) (sa_cons (se_int) (sa_cons (se_int) (sa_cons (mv 2) (sa_cons (se_int) (sa_nil))))))) S.nd)
      (ss_cons (sx_set (i := 5) (se_bin op_addA s2_add (se_lc (own := [("_law_rule", 14)]) S.nd (si_iter (mv 3)) (blkOk_by (N := ["_law_script", "_law_pool", "_law_others", "_law_first", "_law_second", "_law_names_here", "_law_counts_here", "_law_due", "_law_refused", "_law_found", "e", "_law_leaf", "_law_docs", "_law_cells", "_law_rule", "_law_k", "_law_name", "_law_doc", "_law_letter", "_law_pair"]) (sc := defScope (top 41)) (by decide +kernel)) (tg_name 14) (fun _ _ _ _ _ => pg_name (i := 14) S.nd rfl (by first | exact Or.inl rfl | exact Or.inr rfl)) (fun _ _ _ _ _ => st_nil) (fun _ _ _ _ _ => se_ix ix_seq s2_ix (mv 14) (se_int) (fun _ _ => rfl))) (se_lc (own := [("_law_rule", 14)]) S.nd (si_iter (mv 4)) (blkOk_by (N := ["_law_script", "_law_pool", "_law_others", "_law_first", "_law_second", "_law_names_here", "_law_counts_here", "_law_due", "_law_refused", "_law_found", "e", "_law_leaf", "_law_docs", "_law_cells", "_law_rule", "_law_k", "_law_name", "_law_doc", "_law_letter", "_law_pair"]) (sc := defScope (top 41)) (by decide +kernel)) (tg_name 14) (fun _ _ _ _ _ => pg_name (i := 14) S.nd rfl (by first | exact Or.inl rfl | exact Or.inr rfl)) (fun _ _ _ _ _ => st_one (st_cmp (op_eqA (n := 0) hu2) s2_eq (se_callC c__law_for (hr.mono (by omega)) takes0 (sa_cons (mv 3) (sa_cons (se_ix ix_seq s2_ix (mv 14) (se_int) (fun _ _ => rfl)) (sa_nil)))) (se_tup (sa_cons (se_ix ix_seq s2_ix (mv 14) (se_int) (fun _ _ => rfl)) (sa_nil))) (nomark _))) (fun _ _ _ _ _ => se_ix ix_seq s2_ix (mv 14) (se_int) (fun _ _ => rfl)))) S.nd)
      (ss_cons ((by first | exact sx_setLc (own := [("_law_rule", 14)]) (i := 6) S.nd (si_iter (mv 3)) (blkOk_by (N := ["_law_script", "_law_pool", "_law_others", "_law_first", "_law_second", "_law_names_here", "_law_counts_here", "_law_due", "_law_refused", "_law_found", "e", "_law_leaf", "_law_docs", "_law_cells", "_law_rule", "_law_k", "_law_name", "_law_doc", "_law_letter", "_law_pair"]) (sc := defScope (top 41)) (by decide +kernel)) (tg_name 14) (fun _ _ _ _ _ => pg_name (i := 14) S.nd rfl (by first | exact Or.inl rfl | exact Or.inr rfl)) (fun _ _ _ _ _ => st_nil) (fun _ _ _ _ _ => se_callC c__law_counts (hr.mono (by omega)) takes0 (sa_cons (se_ix ix_seq s2_ix (mv 14) (se_int) (fun _ _ => rfl)) (sa_cons (mv 4) (sa_nil)))) | exact sx_set (i := 6) (se_lc (own := [("_law_rule", 14)]) S.nd (si_iter (mv 3)) (blkOk_by (N := ["_law_script", "_law_pool", "_law_others", "_law_first", "_law_second", "_law_names_here", "_law_counts_here", "_law_due", "_law_refused", "_law_found", "e", "_law_leaf", "_law_docs", "_law_cells", "_law_rule", "_law_k", "_law_name", "_law_doc", "_law_letter", "_law_pair"]) (sc := defScope (top 41)) (by decide +kernel)) (tg_name 14) (fun _ _ _ _ _ => pg_name (i := 14) S.nd rfl (by first | exact Or.inl rfl | exact Or.inr rfl)) (fun _ _ _ _ _ => st_nil) (fun _ _ _ _ _ => se_callC c__law_counts (hr.mono (by omega)) takes0 (sa_cons (se_ix ix_seq s2_ix (mv 14) (se_int) (fun _ _ => rfl)) (sa_cons (mv 4) (sa_nil))))) S.nd))
      (ss_cons (sx_set (i := 7) (se_or (se_cmp op_gt s2_gt (se_callB call_len sn_len (by rfl) T.b_len (by decide +kernel) (sa_cons (mv 5) (sa_nil))) (se_int) (nomark _)) (se_one (se_callB (cr_any rfl) sn_any (by rfl) T.b_any (by decide +kernel) (sa_cons (se_lc (own := [("_law_pair", 19)]) S.nd (si_iter (mv 6)) (blkOk_by (N := ["_law_script", "_law_pool", "_law_others", "_law_first", "_law_second", "_law_names_here", "_law_counts_here", "_law_due", "_law_refused", "_law_found", "e", "_law_leaf", "_law_docs", "_law_cells", "_law_rule", "_law_k", "_law_name", "_law_doc", "_law_letter", "_law_pair"]) (sc := defScope (top 41)) (by decide +kernel)) (tg_name 19) (fun _ _ _ _ _ => pg_name (i := 19) S.nd rfl (by first | exact Or.inl rfl | exact Or.inr rfl)) (fun _ _ _ _ _ => st_nil) (fun _ _ _ _ _ => se_or (se_cmp op_gt s2_gt (se_ix ix_seq s2_ix (mv 19) (se_int) (fun _ _ => rfl)) (se_int) (nomark _)) (se_one (se_cmp op_gt s2_gt (se_ix ix_seq s2_ix (mv 19) (se_int) (fun _ _ => rfl)) (se_int) (nomark _))))) (sa_nil))))) S.nd)
      (ss_cons (sx_set (i := 8) (se_non) S.nd)
      (ss_cons (sx_set (i := 9) (se_non) S.nd)
      (ss_cons (sx_try (i := 10) (j := 8) T.ex_TooMany tk (fun _ _ _ tk1 => ss_one (sx_set (i := 9) (se_callC c_chained (hr.mono (by omega)) tk1 (sa_cons (mv 3) (sa_cons (mv 4) (sa_nil)))) S.nd)) S.nd)
      (ss_cons (sx_if (st_val (mv 7))
      (ss_cons (sx_if ((sw_or (st_not (st_val (se_isO T.is_GraftError (mv 8) T.b_isinstance))) (sw_or1 (st_not (st_val (se_isV T.is_ValueError (mv 8) T.b_isinstance T.b_ValueError (by decide +kernel)))))).pt)
      (ss_one (sx_ret (se_bl)))
      (ss_nil))
      (ss_one (sx_ret (se_not (se_isOs T.is_NoTurner_TooLarge (mv 8) T.b_isinstance (nm_cons (nm_cons (NmE.nil))))))))
      (ss_nil))
      (ss_cons (sx_if ((sw_or (st_cmp op_notN s2_notN (mv 8) (se_non) (nomark _)) (sw_or1 (st_not (st_val (se_callC c__law_told_ok (hr.mono (by omega)) tk (sa_cons (mv 9) (sa_cons (mv 5) (sa_nil)))))))).pt)
      (ss_one (sx_ret (se_bl)))
      (ss_nil))
      (ss_cons (sx_set (i := 11) (se_tup (sa_cons (se_callC c__law_plain (hr.mono (by omega)) tk (sa_cons (se_bin op_addA s2_add (mv 1) (mv 2)) (sa_nil))) (sa_cons (se_tup (sa_nil)) (sa_nil)))) S.nd)
      (ss_cons (sx_set (i := 12) (se_bin op_addA s2_add (se_lc (own := [("_law_name", 16)]) S.nd (si_iter (mv 5)) (blkOk_by (N := ["_law_script", "_law_pool", "_law_others", "_law_first", "_law_second", "_law_names_here", "_law_counts_here", "_law_due", "_law_refused", "_law_found", "e", "_law_leaf", "_law_docs", "_law_cells", "_law_rule", "_law_k", "_law_name", "_law_doc", "_law_letter", "_law_pair"]) (sc := defScope (top 41)) (by decide +kernel)) (tg_name 16) (fun _ _ _ _ _ => pg_name (i := 16) S.nd rfl (by first | exact Or.inl rfl | exact Or.inr rfl)) (fun _ _ _ _ _ => st_nil) (fun _ _ _ _ _ => se_tup (sa_cons (mv 16) (sa_cons (se_tup (sa_cons (mv 11) (sa_nil))) (sa_nil))))) (se_lc (own := [("_law_name", 16)]) S.nd (si_iter (mv 5)) (blkOk_by (N := ["_law_script", "_law_pool", "_law_others", "_law_first", "_law_second", "_law_names_here", "_law_counts_here", "_law_due", "_law_refused", "_law_found", "e", "_law_leaf", "_law_docs", "_law_cells", "_law_rule", "_law_k", "_law_name", "_law_doc", "_law_letter", "_law_pair"]) (sc := defScope (top 41)) (by decide +kernel)) (tg_name 16) (fun _ _ _ _ _ => pg_name (i := 16) S.nd rfl (by first | exact Or.inl rfl | exact Or.inr rfl)) (fun _ _ _ _ _ => st_nil) (fun _ _ _ _ _ => se_tup (sa_cons (mv 16) (sa_cons (se_tup (sa_cons (mv 11) (sa_cons (mv 11) (sa_nil)))) (sa_nil)))))) S.nd)
      (ss_cons ((by first | exact sx_setLc (own := [("_law_k", 15)]) (i := 13) S.nd (si_range1 T.b_range (se_callB (call_max2 rfl) sn_max (by rfl) T.b_max (by decide +kernel) (sa_cons (se_int) (sa_cons (se_callB (call_min2 rfl) sn_min (by rfl) T.b_min (by decide +kernel) (sa_cons (se_int) (sa_cons (se_bin op_sub s2_sub (se_callB call_len sn_len (by rfl) T.b_len (by decide +kernel) (sa_cons (mv 0) (sa_nil))) (se_int)) (sa_nil)))) (sa_nil))))) (blkOk_by (N := ["_law_script", "_law_pool", "_law_others", "_law_first", "_law_second", "_law_names_here", "_law_counts_here", "_law_due", "_law_refused", "_law_found", "e", "_law_leaf", "_law_docs", "_law_cells", "_law_rule", "_law_k", "_law_name", "_law_doc", "_law_letter", "_law_pair"]) (sc := defScope (top 41)) (by decide +kernel)) (tg_name 15) (fun _ _ _ _ _ => pg_name (i := 15) S.nd rfl (by first | exact Or.inl rfl | exact Or.inr rfl)) (fun _ _ _ _ _ => st_nil) (fun _ _ _ _ _ => se_callC c__law_cell_at (hr.mono (by omega)) takes0 (sa_cons (mv 0) (sa_cons (se_bin op_addA s2_add (se_int) (mv 15)) (sa_nil)))) | exact sx_set (i := 13) (se_lc (own := [("_law_k", 15)]) S.nd (si_range1 T.b_range (se_callB (call_max2 rfl) sn_max (by rfl) T.b_max (by decide +kernel) (sa_cons (se_int) (sa_cons (se_callB (call_min2 rfl) sn_min (by rfl) T.b_min (by decide +kernel) (sa_cons (se_int) (sa_cons (se_bin op_sub s2_sub (se_callB call_len sn_len (by rfl) T.b_len (by decide +kernel) (sa_cons (mv 0) (sa_nil))) (se_int)) (sa_nil)))) (sa_nil))))) (blkOk_by (N := ["_law_script", "_law_pool", "_law_others", "_law_first", "_law_second", "_law_names_here", "_law_counts_here", "_law_due", "_law_refused", "_law_found", "e", "_law_leaf", "_law_docs", "_law_cells", "_law_rule", "_law_k", "_law_name", "_law_doc", "_law_letter", "_law_pair"]) (sc := defScope (top 41)) (by decide +kernel)) (tg_name 15) (fun _ _ _ _ _ => pg_name (i := 15) S.nd rfl (by first | exact Or.inl rfl | exact Or.inr rfl)) (fun _ _ _ _ _ => st_nil) (fun _ _ _ _ _ => se_callC c__law_cell_at (hr.mono (by omega)) takes0 (sa_cons (mv 0) (sa_cons (se_bin op_addA s2_add (se_int) (mv 15)) (sa_nil))))) S.nd))
      (ss_cons (sx_expr (se_bm PySem.F.plainAttrs_list PySem.F.slot_list_extend PySem.F.type_list_extend mt_extend sty_list sm_extend (mv 12) (sa_cons (se_ix ix_seq s2_ix (se_callC c__law_free_docs (hr.mono (by omega)) tk (sa_cons (mv 13) (sa_cons (se_bin op_addA s2_add (se_slice (mv 1) (sp_none) (sp_some (se_int))) (se_slice (mv 2) (sp_none) (sp_some (se_int)))) (sa_nil)))) (se_int) (fun _ _ => rfl)) (sa_nil))))
      (ss_one (sx_ret (se_callB (cr_all rfl) sn_all (by rfl) T.b_all (by decide +kernel) (sa_cons (se_lc (own := [("_law_doc", 17)]) S.nd (si_iter (mv 12)) (blkOk_by (N := ["_law_script", "_law_pool", "_law_others", "_law_first", "_law_second", "_law_names_here", "_law_counts_here", "_law_due", "_law_refused", "_law_found", "e", "_law_leaf", "_law_docs", "_law_cells", "_law_rule", "_law_k", "_law_name", "_law_doc", "_law_letter", "_law_pair"]) (sc := defScope (top 41)) (by decide +kernel)) (tg_name 17) (fun _ _ _ _ _ => pg_name (i := 17) S.nd rfl (by first | exact Or.inl rfl | exact Or.inr rfl)) (fun _ _ _ _ _ => st_nil) (fun _ _ _ _ _ => se_callC c__law_agree (hr.mono (by omega)) takes0 (sa_cons (mv 3) (sa_cons (mv 4) (sa_cons (mv 9) (sa_cons (mv 17) (sa_nil))))))) (sa_nil))))))))))))))))))))
end
theorem all_mk {l : PySem.W.OpenLaw} {w : World} {K : PySem.W.Frag} {h : Heap} {mg : Str → Option Value} {fa : Addr} (X : K.In h) (G : h.Ns mainGlobals mg) (hfa : mg "law" = some (.ref fa))
    {f0 : Addr} {od0 an0 : Option Addr} {sl0 : Array (Option Value)} {oc0 kV0 dc0 pm0 cd0 ct0 : Value} {f1 : Addr} {od1 an1 : Option Addr} {sl1 : Array (Option Value)} {oc1 kV1 dc1 pm1 cd1 ct1 : Value} {f2 : Addr} {od2 an2 : Option Addr} {sl2 : Array (Option Value)} {oc2 kV2 dc2 pm2 cd2 ct2 : Value} {f3 : Addr} {od3 an3 : Option Addr} {sl3 : Array (Option Value)} {oc3 kV3 dc3 pm3 cd3 ct3 : Value} {f4 : Addr} {od4 an4 : Option Addr} {sl4 : Array (Option Value)} {oc4 kV4 dc4 pm4 cd4 ct4 : Value} {f5 : Addr} {od5 an5 : Option Addr} {sl5 : Array (Option Value)} {oc5 kV5 dc5 pm5 cd5 ct5 : Value} {f6 : Addr} {od6 an6 : Option Addr} {sl6 : Array (Option Value)} {oc6 kV6 dc6 pm6 cd6 ct6 : Value} {f7 : Addr} {od7 an7 : Option Addr} {sl7 : Array (Option Value)} {oc7 kV7 dc7 pm7 cd7 ct7 : Value} {f8 : Addr} {od8 an8 : Option Addr} {sl8 : Array (Option Value)} {oc8 kV8 dc8 pm8 cd8 ct8 : Value} {f9 : Addr} {od9 an9 : Option Addr} {sl9 : Array (Option Value)} {oc9 kV9 dc9 pm9 cd9 ct9 : Value} {f10 : Addr} {od10 an10 : Option Addr} {sl10 : Array (Option Value)} {oc10 kV10 dc10 pm10 cd10 ct10 : Value} {f11 : Addr} {od11 an11 : Option Addr} {sl11 : Array (Option Value)} {oc11 kV11 dc11 pm11 cd11 ct11 : Value} {f12 : Addr} {od12 an12 : Option Addr} {sl12 : Array (Option Value)} {oc12 kV12 dc12 pm12 cd12 ct12 : Value} {f13 : Addr} {od13 an13 : Option Addr} {sl13 : Array (Option Value)} {oc13 kV13 dc13 pm13 cd13 ct13 : Value} {f14 : Addr} {od14 an14 : Option Addr} {sl14 : Array (Option Value)} {oc14 kV14 dc14 pm14 cd14 ct14 : Value} {f15 : Addr} {od15 an15 : Option Addr} {sl15 : Array (Option Value)} {oc15 kV15 dc15 pm15 cd15 ct15 : Value} {f16 : Addr} {od16 an16 : Option Addr} {sl16 : Array (Option Value)} {oc16 kV16 dc16 pm16 cd16 ct16 : Value} {f17 : Addr} {od17 an17 : Option Addr} {sl17 : Array (Option Value)} {oc17 kV17 dc17 pm17 cd17 ct17 : Value} {f18 : Addr} {od18 an18 : Option Addr} {sl18 : Array (Option Value)} {oc18 kV18 dc18 pm18 cd18 ct18 : Value} {f19 : Addr} {od19 an19 : Option Addr} {sl19 : Array (Option Value)} {oc19 kV19 dc19 pm19 cd19 ct19 : Value} {f20 : Addr} {od20 an20 : Option Addr} {sl20 : Array (Option Value)} {oc20 kV20 dc20 pm20 cd20 ct20 : Value} {f21 : Addr} {od21 an21 : Option Addr} {sl21 : Array (Option Value)} {oc21 kV21 dc21 pm21 cd21 ct21 : Value} {f22 : Addr} {od22 an22 : Option Addr} {sl22 : Array (Option Value)} {oc22 kV22 dc22 pm22 cd22 ct22 : Value} {f23 : Addr} {od23 an23 : Option Addr} {sl23 : Array (Option Value)} {oc23 kV23 dc23 pm23 cd23 ct23 : Value} {f24 : Addr} {od24 an24 : Option Addr} {sl24 : Array (Option Value)} {oc24 kV24 dc24 pm24 cd24 ct24 : Value} {f25 : Addr} {od25 an25 : Option Addr} {sl25 : Array (Option Value)} {oc25 kV25 dc25 pm25 cd25 ct25 : Value} {f26 : Addr} {od26 an26 : Option Addr} {sl26 : Array (Option Value)} {oc26 kV26 dc26 pm26 cd26 ct26 : Value} {f27 : Addr} {od27 an27 : Option Addr} {sl27 : Array (Option Value)} {oc27 kV27 dc27 pm27 cd27 ct27 : Value} {f28 : Addr} {od28 an28 : Option Addr} {sl28 : Array (Option Value)} {oc28 kV28 dc28 pm28 cd28 ct28 : Value} {f29 : Addr} {od29 an29 : Option Addr} {sl29 : Array (Option Value)} {oc29 kV29 dc29 pm29 cd29 ct29 : Value} {f30 : Addr} {od30 an30 : Option Addr} {sl30 : Array (Option Value)} {oc30 kV30 dc30 pm30 cd30 ct30 : Value} {tz_HOLE : Tok} {tz_ITEMS : Tok} {tz_NESTED : Tok} {tz_TURNS : Tok}
    (a0 : PySem.W.nsIn K mainGlobals "_law_names" = some (some (.ref f0)))
    (l0 : K.lookup f0 = some ⟨oc0, od0, .func (PySem.W.fnOf "_law_names" "_law_names" (defArgs (top 24)) (defBody (top 24)) (defScope (top 24)) .none kV0 dc0 pm0 an0 cd0 ct0), sl0⟩) (e0 : PySem.W.codeIn K cd0 "_law_names" = true) (k0 : PySem.W.keepIn K (.ref f0) = true)
    (a1 : PySem.W.nsIn K mainGlobals "_law_cell_at" = some (some (.ref f1)))
    (l1 : K.lookup f1 = some ⟨oc1, od1, .func (PySem.W.fnOf "_law_cell_at" "_law_cell_at" (defArgs (top 20)) (defBody (top 20)) (defScope (top 20)) .none kV1 dc1 pm1 an1 cd1 ct1), sl1⟩) (e1 : PySem.W.codeIn K cd1 "_law_cell_at" = true) (k1 : PySem.W.keepIn K (.ref f1) = true)
    (a2 : PySem.W.nsIn K mainGlobals "_law_mix" = some (some (.ref f2)))
    (l2 : K.lookup f2 = some ⟨oc2, od2, .func (PySem.W.fnOf "_law_mix" "_law_mix" (defArgs (top 21)) (defBody (top 21)) (defScope (top 21)) .none kV2 dc2 pm2 an2 cd2 ct2), sl2⟩) (e2 : PySem.W.codeIn K cd2 "_law_mix" = true) (k2 : PySem.W.keepIn K (.ref f2) = true)
    (a3 : PySem.W.nsIn K mainGlobals "_law_tape" = some (some (.ref f3)))
    (l3 : K.lookup f3 = some ⟨oc3, od3, .func (PySem.W.fnOf "_law_tape" "_law_tape" (defArgs (top 22)) (defBody (top 22)) (defScope (top 22)) .none kV3 dc3 pm3 an3 cd3 ct3), sl3⟩) (e3 : PySem.W.codeIn K cd3 "_law_tape" = true) (k3 : PySem.W.keepIn K (.ref f3) = true)
    (a4 : PySem.W.nsIn K mainGlobals "_law_next" = some (some (.ref f4)))
    (l4 : K.lookup f4 = some ⟨oc4, od4, .func (PySem.W.fnOf "_law_next" "_law_next" (defArgs (top 23)) (defBody (top 23)) (defScope (top 23)) .none kV4 dc4 pm4 an4 cd4 ct4), sl4⟩) (e4 : PySem.W.codeIn K cd4 "_law_next" = true) (k4 : PySem.W.keepIn K (.ref f4) = true)
    (a5 : PySem.W.nsIn K mainGlobals "_law_items" = some (some (.ref f5)))
    (l5 : K.lookup f5 = some ⟨oc5, od5, .func (PySem.W.fnOf "_law_items" "_law_items" (defArgs (top 25)) (defBody (top 25)) (defScope (top 25)) .none kV5 dc5 pm5 an5 cd5 ct5), sl5⟩) (e5 : PySem.W.codeIn K cd5 "_law_items" = true) (k5 : PySem.W.keepIn K (.ref f5) = true)
    (a6 : PySem.W.nsIn K mainGlobals "_law_turner" = some (some (.ref f6)))
    (l6 : K.lookup f6 = some ⟨oc6, od6, .func (PySem.W.fnOf "_law_turner" "_law_turner" (defArgs (top 26)) (defBody (top 26)) (defScope (top 26)) .none kV6 dc6 pm6 an6 cd6 ct6), sl6⟩) (e6 : PySem.W.codeIn K cd6 "_law_turner" = true) (k6 : PySem.W.keepIn K (.ref f6) = true)
    (a7 : PySem.W.nsIn K mainGlobals "_law_firsts" = some (some (.ref f7)))
    (l7 : K.lookup f7 = some ⟨oc7, od7, .func (PySem.W.fnOf "_law_firsts" "_law_firsts" (defArgs (top 40)) (defBody (top 40)) (defScope (top 40)) .none kV7 dc7 pm7 an7 cd7 ct7), sl7⟩) (e7 : PySem.W.codeIn K cd7 "_law_firsts" = true) (k7 : PySem.W.keepIn K (.ref f7) = true)
    (a8 : PySem.W.nsIn K mainGlobals "_law_for" = some (some (.ref f8)))
    (l8 : K.lookup f8 = some ⟨oc8, od8, .func (PySem.W.fnOf "_law_for" "_law_for" (defArgs (top 28)) (defBody (top 28)) (defScope (top 28)) .none kV8 dc8 pm8 an8 cd8 ct8), sl8⟩) (e8 : PySem.W.codeIn K cd8 "_law_for" = true) (k8 : PySem.W.keepIn K (.ref f8) = true)
    (a9 : PySem.W.nsIn K mainGlobals "_law_size" = some (some (.ref f9)))
    (l9 : K.lookup f9 = some ⟨oc9, od9, .func (PySem.W.fnOf "_law_size" "_law_size" (defArgs (top 29)) (defBody (top 29)) (defScope (top 29)) .none kV9 dc9 pm9 an9 cd9 ct9), sl9⟩) (e9 : PySem.W.codeIn K cd9 "_law_size" = true) (k9 : PySem.W.keepIn K (.ref f9) = true)
    (a10 : PySem.W.nsIn K mainGlobals "_law_deep" = some (some (.ref f10)))
    (l10 : K.lookup f10 = some ⟨oc10, od10, .func (PySem.W.fnOf "_law_deep" "_law_deep" (defArgs (top 32)) (defBody (top 32)) (defScope (top 32)) .none kV10 dc10 pm10 an10 cd10 ct10), sl10⟩) (e10 : PySem.W.codeIn K cd10 "_law_deep" = true) (k10 : PySem.W.keepIn K (.ref f10) = true)
    (a11 : PySem.W.nsIn K mainGlobals "_law_counts" = some (some (.ref f11)))
    (l11 : K.lookup f11 = some ⟨oc11, od11, .func (PySem.W.fnOf "_law_counts" "_law_counts" (defArgs (top 33)) (defBody (top 33)) (defScope (top 33)) .none kV11 dc11 pm11 an11 cd11 ct11), sl11⟩) (e11 : PySem.W.codeIn K cd11 "_law_counts" = true) (k11 : PySem.W.keepIn K (.ref f11) = true)
    (a12 : PySem.W.nsIn K mainGlobals "items_for" = some (some (.ref f12)))
    (l12 : K.lookup f12 = some ⟨oc12, od12, .func (PySem.W.fnOf "items_for" "items_for" (defArgs (top 10)) (defBody (top 10)) (defScope (top 10)) .none kV12 dc12 pm12 an12 cd12 ct12), sl12⟩) (e12 : PySem.W.codeIn K cd12 "items_for" = true) (k12 : PySem.W.keepIn K (.ref f12) = true)
    (a13 : PySem.W.nsIn K mainGlobals "filled_size" = some (some (.ref f13)))
    (l13 : K.lookup f13 = some ⟨oc13, od13, .func (PySem.W.fnOf "filled_size" "filled_size" (defArgs (top 13)) (defBody (top 13)) (defScope (top 13)) .none kV13 dc13 pm13 an13 cd13 ct13), sl13⟩) (e13 : PySem.W.codeIn K cd13 "filled_size" = true) (k13 : PySem.W.keepIn K (.ref f13) = true)
    (a14 : PySem.W.nsIn K mainGlobals "chained_size" = some (some (.ref f14)))
    (l14 : K.lookup f14 = some ⟨oc14, od14, .func (PySem.W.fnOf "chained_size" "chained_size" (defArgs (top 15)) (defBody (top 15)) (defScope (top 15)) .none kV14 dc14 pm14 an14 cd14 ct14), sl14⟩) (e14 : PySem.W.codeIn K cd14 "chained_size" = true) (k14 : PySem.W.keepIn K (.ref f14) = true)
    (a15 : PySem.W.nsIn K mainGlobals "filled_depth" = some (some (.ref f15)))
    (l15 : K.lookup f15 = some ⟨oc15, od15, .func (PySem.W.fnOf "filled_depth" "filled_depth" (defArgs (top 14)) (defBody (top 14)) (defScope (top 14)) .none kV15 dc15 pm15 an15 cd15 ct15), sl15⟩) (e15 : PySem.W.codeIn K cd15 "filled_depth" = true) (k15 : PySem.W.keepIn K (.ref f15) = true)
    (a16 : PySem.W.nsIn K mainGlobals "chained_depth" = some (some (.ref f16)))
    (l16 : K.lookup f16 = some ⟨oc16, od16, .func (PySem.W.fnOf "chained_depth" "chained_depth" (defArgs (top 16)) (defBody (top 16)) (defScope (top 16)) .none kV16 dc16 pm16 an16 cd16 ct16), sl16⟩) (e16 : PySem.W.codeIn K cd16 "chained_depth" = true) (k16 : PySem.W.keepIn K (.ref f16) = true)
    (a17 : PySem.W.nsIn K mainGlobals "has_hole" = some (some (.ref f17)))
    (l17 : K.lookup f17 = some ⟨oc17, od17, .func (PySem.W.fnOf "has_hole" "has_hole" (defArgs (top 11)) (defBody (top 11)) (defScope (top 11)) .none kV17 dc17 pm17 an17 cd17 ct17), sl17⟩) (e17 : PySem.W.codeIn K cd17 "has_hole" = true) (k17 : PySem.W.keepIn K (.ref f17) = true)
    (a18 : PySem.W.nsIn K mainGlobals "filled" = some (some (.ref f18)))
    (l18 : K.lookup f18 = some ⟨oc18, od18, .func (PySem.W.fnOf "filled" "filled" (defArgs (top 12)) (defBody (top 12)) (defScope (top 12)) .none kV18 dc18 pm18 an18 cd18 ct18), sl18⟩) (e18 : PySem.W.codeIn K cd18 "filled" = true) (k18 : PySem.W.keepIn K (.ref f18) = true)
    (a19 : PySem.W.nsIn K mainGlobals "chained_items" = some (some (.ref f19)))
    (l19 : K.lookup f19 = some ⟨oc19, od19, .func (PySem.W.fnOf "chained_items" "chained_items" (defArgs (top 17)) (defBody (top 17)) (defScope (top 17)) .none kV19 dc19 pm19 an19 cd19 ct19), sl19⟩) (e19 : PySem.W.codeIn K cd19 "chained_items" = true) (k19 : PySem.W.keepIn K (.ref f19) = true)
    (a20 : PySem.W.nsIn K mainGlobals "chained" = some (some (.ref f20)))
    (l20 : K.lookup f20 = some ⟨oc20, od20, .func (PySem.W.fnOf "chained" "chained" (defArgs (top 18)) (defBody (top 18)) (defScope (top 18)) .none kV20 dc20 pm20 an20 cd20 ct20), sl20⟩) (e20 : PySem.W.codeIn K cd20 "chained" = true) (k20 : PySem.W.keepIn K (.ref f20) = true)
    (a21 : PySem.W.nsIn K mainGlobals "_law_plain" = some (some (.ref f21)))
    (l21 : K.lookup f21 = some ⟨oc21, od21, .func (PySem.W.fnOf "_law_plain" "_law_plain" (defArgs (top 39)) (defBody (top 39)) (defScope (top 39)) .none kV21 dc21 pm21 an21 cd21 ct21), sl21⟩) (e21 : PySem.W.codeIn K cd21 "_law_plain" = true) (k21 : PySem.W.keepIn K (.ref f21) = true)
    (a22 : PySem.W.nsIn K mainGlobals "_law_same" = some (some (.ref f22)))
    (l22 : K.lookup f22 = some ⟨oc22, od22, .func (PySem.W.fnOf "_law_same" "_law_same" (defArgs (top 31)) (defBody (top 31)) (defScope (top 31)) .none kV22 dc22 pm22 an22 cd22 ct22), sl22⟩) (e22 : PySem.W.codeIn K cd22 "_law_same" = true) (k22 : PySem.W.keepIn K (.ref f22) = true)
    (a23 : PySem.W.nsIn K mainGlobals "_law_items_ok" = some (some (.ref f23)))
    (l23 : K.lookup f23 = some ⟨oc23, od23, .func (PySem.W.fnOf "_law_items_ok" "_law_items_ok" (defArgs (top 34)) (defBody (top 34)) (defScope (top 34)) .none kV23 dc23 pm23 an23 cd23 ct23), sl23⟩) (e23 : PySem.W.codeIn K cd23 "_law_items_ok" = true) (k23 : PySem.W.keepIn K (.ref f23) = true)
    (a24 : PySem.W.nsIn K mainGlobals "_law_told_ok" = some (some (.ref f24)))
    (l24 : K.lookup f24 = some ⟨oc24, od24, .func (PySem.W.fnOf "_law_told_ok" "_law_told_ok" (defArgs (top 35)) (defBody (top 35)) (defScope (top 35)) .none kV24 dc24 pm24 an24 cd24 ct24), sl24⟩) (e24 : PySem.W.codeIn K cd24 "_law_told_ok" = true) (k24 : PySem.W.keepIn K (.ref f24) = true)
    (a25 : PySem.W.nsIn K mainGlobals "_law_free_docs" = some (some (.ref f25)))
    (l25 : K.lookup f25 = some ⟨oc25, od25, .func (PySem.W.fnOf "_law_free_docs" "_law_free_docs" (defArgs (top 27)) (defBody (top 27)) (defScope (top 27)) .none kV25 dc25 pm25 an25 cd25 ct25), sl25⟩) (e25 : PySem.W.codeIn K cd25 "_law_free_docs" = true) (k25 : PySem.W.keepIn K (.ref f25) = true)
    (a26 : PySem.W.nsIn K mainGlobals "_law_full" = some (some (.ref f26)))
    (l26 : K.lookup f26 = some ⟨oc26, od26, .func (PySem.W.fnOf "_law_full" "_law_full" (defArgs (top 30)) (defBody (top 30)) (defScope (top 30)) .none kV26 dc26 pm26 an26 cd26 ct26), sl26⟩) (e26 : PySem.W.codeIn K cd26 "_law_full" = true) (k26 : PySem.W.keepIn K (.ref f26) = true)
    (a27 : PySem.W.nsIn K mainGlobals "_law_turn" = some (some (.ref f27)))
    (l27 : K.lookup f27 = some ⟨oc27, od27, .func (PySem.W.fnOf "_law_turn" "_law_turn" (defArgs (top 37)) (defBody (top 37)) (defScope (top 37)) .none kV27 dc27 pm27 an27 cd27 ct27), sl27⟩) (e27 : PySem.W.codeIn K cd27 "_law_turn" = true) (k27 : PySem.W.keepIn K (.ref f27) = true)
    (a28 : PySem.W.nsIn K mainGlobals "_law_weight" = some (some (.ref f28)))
    (l28 : K.lookup f28 = some ⟨oc28, od28, .func (PySem.W.fnOf "_law_weight" "_law_weight" (defArgs (top 36)) (defBody (top 36)) (defScope (top 36)) .none kV28 dc28 pm28 an28 cd28 ct28), sl28⟩) (e28 : PySem.W.codeIn K cd28 "_law_weight" = true) (k28 : PySem.W.keepIn K (.ref f28) = true)
    (a29 : PySem.W.nsIn K mainGlobals "_law_agree" = some (some (.ref f29)))
    (l29 : K.lookup f29 = some ⟨oc29, od29, .func (PySem.W.fnOf "_law_agree" "_law_agree" (defArgs (top 38)) (defBody (top 38)) (defScope (top 38)) .none kV29 dc29 pm29 an29 cd29 ct29), sl29⟩) (e29 : PySem.W.codeIn K cd29 "_law_agree" = true) (k29 : PySem.W.keepIn K (.ref f29) = true)
    (a30 : PySem.W.nsIn K mainGlobals "law" = some (some (.ref f30)))
    (l30 : K.lookup f30 = some ⟨oc30, od30, .func (PySem.W.fnOf "law" "law" (defArgs (top 41)) (defBody (top 41)) (defScope (top 41)) .none kV30 dc30 pm30 an30 cd30 ct30), sl30⟩) (e30 : PySem.W.codeIn K cd30 "law" = true) (k30 : PySem.W.keepIn K (.ref f30) = true)
    (zb_ValueError : PySem.W.nsIn K mainGlobals "ValueError" = some none)
    (zb_all : PySem.W.nsIn K mainGlobals "all" = some none)
    (zb_any : PySem.W.nsIn K mainGlobals "any" = some none)
    (zb_bool : PySem.W.nsIn K mainGlobals "bool" = some none)
    (zb_int : PySem.W.nsIn K mainGlobals "int" = some none)
    (zb_isinstance : PySem.W.nsIn K mainGlobals "isinstance" = some none)
    (zb_len : PySem.W.nsIn K mainGlobals "len" = some none)
    (zb_list : PySem.W.nsIn K mainGlobals "list" = some none)
    (zb_max : PySem.W.nsIn K mainGlobals "max" = some none)
    (zb_min : PySem.W.nsIn K mainGlobals "min" = some none)
    (zb_range : PySem.W.nsIn K mainGlobals "range" = some none)
    (zb_reversed : PySem.W.nsIn K mainGlobals "reversed" = some none)
    (zb_str : PySem.W.nsIn K mainGlobals "str" = some none)
    (zb_tuple : PySem.W.nsIn K mainGlobals "tuple" = some none)
    (zb_zip : PySem.W.nsIn K mainGlobals "zip" = some none)
    (zg_HOLE : PySem.W.nsIn K mainGlobals "HOLE" = some (some (.str (Str.ofString "*") tz_HOLE)))
    (zg_ITEMS : PySem.W.nsIn K mainGlobals "ITEMS" = some (some (.int (40) tz_ITEMS)))
    (zg_NESTED : PySem.W.nsIn K mainGlobals "NESTED" = some (some (.int (8) tz_NESTED)))
    (zg_TURNS : PySem.W.nsIn K mainGlobals "TURNS" = some (some (.int (12) tz_TURNS)))
    (zf_ex_TooMany : exTB K "TooMany" [((Str.ofString "TooMany"), true)] = true)
    (zf_is_GraftError : isTB K "GraftError" [((Str.ofString "TooMany"), true)] = true)
    (zf_is_NoTurner_TooLarge : isTsB K [(Str.ofString "NoTurner"), (Str.ofString "TooLarge")] [((Str.ofString "TooMany"), false)] = true)
    (zf_is_ValueError : isBB K "ValueError" [((Str.ofString "TooMany"), true)] = true)
    (zf_r_TooMany : x0B K "TooMany" = true) :
    ∃ fd : FuncData, (∀ (s : Shared) (v : Value), BindsTo s fd ⟨[v], []⟩ [("_law_script", v)]) ∧ ∀ base : Heap, K.In base → base.Ns mainGlobals mg → FnOk l.prog w K mg base (L2.CX l.prog w) 203 fa fd ["_law_script"] (spM (gOf w K) m_law_d94d6) := by
  have T : Txt K mg := ⟨PySem.W.mg_none_of X G zb_ValueError, PySem.W.mg_none_of X G zb_all, PySem.W.mg_none_of X G zb_any, PySem.W.mg_none_of X G zb_bool, PySem.W.mg_none_of X G zb_int, PySem.W.mg_none_of X G zb_isinstance, PySem.W.mg_none_of X G zb_len, PySem.W.mg_none_of X G zb_list, PySem.W.mg_none_of X G zb_max, PySem.W.mg_none_of X G zb_min, PySem.W.mg_none_of X G zb_range, PySem.W.mg_none_of X G zb_reversed, PySem.W.mg_none_of X G zb_str, PySem.W.mg_none_of X G zb_tuple, PySem.W.mg_none_of X G zb_zip, ⟨_, PySem.W.mg_of X G zg_HOLE⟩, ⟨_, PySem.W.mg_of X G zg_ITEMS⟩, ⟨_, PySem.W.mg_of X G zg_NESTED⟩, ⟨_, PySem.W.mg_of X G zg_TURNS⟩, exTB_ok X G zf_ex_TooMany, isTB_ok X G zf_is_GraftError, isTsB_ok X G zf_is_NoTurner_TooLarge, isBB_ok zf_is_ValueError, x0B_ok X G zf_r_TooMany⟩
  have d0 : Df K mg "_law_names" (top 24) ["_law_cell"] := df_mk X G a0 l0 e0 k0 fun _ _ _ _ _ _ us hl => match us, hl with | [_], _ => rfl
  have c0 : ∀ base : Heap, Cal l.prog w K mg base "_law_names" 1 (m_names_c11ae) := fun base => sim__law_names T d0
  have d1 : Df K mg "_law_cell_at" (top 20) ["_law_script", "_law_k"] := df_mk X G a1 l1 e1 k1 fun _ _ _ _ _ _ us hl => match us, hl with | [_, _], _ => rfl
  have c1 : ∀ base : Heap, Cal l.prog w K mg base "_law_cell_at" 1 (m_cell_at_2c4cb) := fun base => sim__law_cell_at T d1
  have d2 : Df K mg "_law_mix" (top 21) ["_law_number", "_law_k"] := df_mk X G a2 l2 e2 k2 fun _ _ _ _ _ _ us hl => match us, hl with | [_, _], _ => rfl
  have c2 : ∀ base : Heap, Cal l.prog w K mg base "_law_mix" 1 (m_mix_1b9e1) := fun base => sim__law_mix T d2
  have d3 : Df K mg "_law_tape" (top 22) ["_law_cell", "_law_many"] := df_mk X G a3 l3 e3 k3 fun _ _ _ _ _ _ us hl => match us, hl with | [_, _], _ => rfl
  have c3 : ∀ base : Heap, Cal l.prog w K mg base "_law_tape" 2 (m_tape_92891) := fun base => sim__law_tape T d3 (c2 base)
  have d4 : Df K mg "_law_next" (top 23) ["_law_tape_here", "_law_many"] := df_mk X G a4 l4 e4 k4 fun _ _ _ _ _ _ us hl => match us, hl with | [_, _], _ => rfl
  have c4 : ∀ base : Heap, Cal l.prog w K mg base "_law_next" 1 (m_next_fea17) := fun base => sim__law_next T d4
  have d5 : Df K mg "_law_items" (top 25) ["_law_tape_here", "_law_depth", "_law_pool"] := df_mk X G a5 l5 e5 k5 fun _ _ _ _ _ _ us hl => match us, hl with | [_, _, _], _ => rfl
  have c5 : ∀ base : Heap, Cal l.prog w K mg base "_law_items" 101 (m_items_b2406 100) := fun base => sim__law_items T d5 (c4 base) 100
  have d6 : Df K mg "_law_turner" (top 26) ["_law_script", "_law_start", "_law_most", "_law_pool", "_law_deep_here"] := df_mk X G a6 l6 e6 k6 fun _ _ _ _ _ _ us hl => match us, hl with | [_, _, _, _, _], _ => rfl
  have c6 : ∀ base : Heap, Cal l.prog w K mg base "_law_turner" 102 (m_turner_aa784) := fun base => sim__law_turner T d6 (c1 base) (c3 base) (c4 base) (c5 base)
  have d7 : Df K mg "_law_firsts" (top 40) ["_law_script", "_law_pool"] := df_mk X G a7 l7 e7 k7 fun _ _ _ _ _ _ us hl => match us, hl with | [_, _], _ => rfl
  have c7 : ∀ base : Heap, Cal l.prog w K mg base "_law_firsts" 103 (m_firsts_3d5cc) := fun base => sim__law_firsts T d7 (c6 base) (c3 base) (c1 base) (c4 base)
  have d8 : Df K mg "_law_for" (top 28) ["_law_rules", "_law_name"] := df_mk X G a8 l8 e8 k8 fun _ _ _ _ _ _ us hl => match us, hl with | [_, _], _ => rfl
  have c8 : ∀ base : Heap, Cal l.prog w K mg base "_law_for" 1 (m_for_39fc1) := fun base => sim__law_for T d8
  have d9 : Df K mg "_law_size" (top 29) ["_law_items_here", "_law_size_here"] := df_mk X G a9 l9 e9 k9 fun _ _ _ _ _ _ us hl => match us, hl with | [_, _], _ => rfl
  have c9 : ∀ base : Heap, Cal l.prog w K mg base "_law_size" 101 (m_size_05894 100) := fun base => sim__law_size T d9 100
  have d10 : Df K mg "_law_deep" (top 32) ["_law_items_here", "_law_depth"] := df_mk X G a10 l10 e10 k10 fun _ _ _ _ _ _ us hl => match us, hl with | [_, _], _ => rfl
  have c10 : ∀ base : Heap, Cal l.prog w K mg base "_law_deep" 101 (m_deep_c9d37 100) := fun base => sim__law_deep T d10 100
  have d11 : Df K mg "_law_counts" (top 33) ["_law_items_here", "_law_second"] := df_mk X G a11 l11 e11 k11 fun _ _ _ _ _ _ us hl => match us, hl with | [_, _], _ => rfl
  have c11 : ∀ base : Heap, Cal l.prog w K mg base "_law_counts" 201 (m_counts_fd1bc 100) := fun base => sim__law_counts T d11 (c8 base) (c9 base) (c10 base) 100
  have d12 : Df K mg "items_for" (top 10) ["turner", "name"] := df_mk X G a12 l12 e12 k12 fun _ _ _ _ _ _ us hl => match us, hl with | [_, _], _ => rfl
  have c12 : ∀ base : Heap, Cal l.prog w K mg base "items_for" 1 (m_items_for_2ec27) := fun base => sim_items_for T d12
  have d13 : Df K mg "filled_size" (top 13) ["items", "size"] := df_mk X G a13 l13 e13 k13 fun _ _ _ _ _ _ us hl => match us, hl with | [_, _], _ => rfl
  have c13 : ∀ base : Heap, Cal l.prog w K mg base "filled_size" 101 (m_filled_size_5412a 100) := fun base => sim_filled_size T d13 100
  have d14 : Df K mg "chained_size" (top 15) ["items", "second"] := df_mk X G a14 l14 e14 k14 fun _ _ _ _ _ _ us hl => match us, hl with | [_, _], _ => rfl
  have c14 : ∀ base : Heap, Cal l.prog w K mg base "chained_size" 201 (m_chained_size_ac0f3 100) := fun base => sim_chained_size T d14 (c12 base) (c13 base) 100
  have d15 : Df K mg "filled_depth" (top 14) ["items", "depth"] := df_mk X G a15 l15 e15 k15 fun _ _ _ _ _ _ us hl => match us, hl with | [_, _], _ => rfl
  have c15 : ∀ base : Heap, Cal l.prog w K mg base "filled_depth" 101 (m_filled_depth_8b70f 100) := fun base => sim_filled_depth T d15 100
  have d16 : Df K mg "chained_depth" (top 16) ["items", "second"] := df_mk X G a16 l16 e16 k16 fun _ _ _ _ _ _ us hl => match us, hl with | [_, _], _ => rfl
  have c16 : ∀ base : Heap, Cal l.prog w K mg base "chained_depth" 201 (m_chained_depth_b220a 100) := fun base => sim_chained_depth T d16 (c12 base) (c15 base) 100
  have d17 : Df K mg "has_hole" (top 11) ["items"] := df_mk X G a17 l17 e17 k17 fun _ _ _ _ _ _ us hl => match us, hl with | [_], _ => rfl
  have c17 : ∀ base : Heap, Cal l.prog w K mg base "has_hole" 101 (m_has_hole_6be3c 100) := fun base => sim_has_hole T d17 100
  have d18 : Df K mg "filled" (top 12) ["items", "row"] := df_mk X G a18 l18 e18 k18 fun _ _ _ _ _ _ us hl => match us, hl with | [_, _], _ => rfl
  have c18 : ∀ base : Heap, Cal l.prog w K mg base "filled" 101 (m_filled_1058b 100) := fun base => sim_filled T d18 100
  have d19 : Df K mg "chained_items" (top 17) ["items", "second"] := df_mk X G a19 l19 e19 k19 fun _ _ _ _ _ _ us hl => match us, hl with | [_, _], _ => rfl
  have c19 : ∀ base : Heap, Cal l.prog w K mg base "chained_items" 201 (m_chained_items_6a3ab 100) := fun base => sim_chained_items T d19 (c12 base) (c17 base) (c18 base) 100
  have d20 : Df K mg "chained" (top 18) ["first", "second"] := df_mk X G a20 l20 e20 k20 fun _ _ _ _ _ _ us hl => match us, hl with | [_, _], _ => rfl
  have c20 : ∀ base : Heap, Cal l.prog w K mg base "chained" 202 (m_chained_3458f) := fun base => sim_chained T d20 (c12 base) (c16 base) (c14 base) (c19 base)
  have d21 : Df K mg "_law_plain" (top 39) ["_law_pool"] := df_mk X G a21 l21 e21 k21 fun _ _ _ _ _ _ us hl => match us, hl with | [_], _ => rfl
  have c21 : ∀ base : Heap, Cal l.prog w K mg base "_law_plain" 1 (m_plain_f8b51) := fun base => sim__law_plain T d21
  have d22 : Df K mg "_law_same" (top 31) ["_law_found", "_law_due"] := df_mk X G a22 l22 e22 k22 fun _ _ _ _ _ _ us hl => match us, hl with | [_, _], _ => rfl
  have c22 : ∀ base : Heap, Cal l.prog w K mg base "_law_same" 171 (m_same_3d8da 170) := fun base => sim__law_same T d22 170
  have d23 : Df K mg "_law_items_ok" (top 34) ["_law_items_here"] := df_mk X G a23 l23 e23 k23 fun _ _ _ _ _ _ us hl => match us, hl with | [_], _ => rfl
  have c23 : ∀ base : Heap, Cal l.prog w K mg base "_law_items_ok" 101 (m_items_ok_00e70 100) := fun base => sim__law_items_ok T d23 100
  have d24 : Df K mg "_law_told_ok" (top 35) ["_law_found", "_law_names_here"] := df_mk X G a24 l24 e24 k24 fun _ _ _ _ _ _ us hl => match us, hl with | [_, _], _ => rfl
  have c24 : ∀ base : Heap, Cal l.prog w K mg base "_law_told_ok" 172 (m_told_ok_bc759) := fun base => sim__law_told_ok T d24 (c23 base) (c22 base)
  have d25 : Df K mg "_law_free_docs" (top 27) ["_law_cells", "_law_pool"] := df_mk X G a25 l25 e25 k25 fun _ _ _ _ _ _ us hl => match us, hl with | [_, _], _ => rfl
  have c25 : ∀ base : Heap, Cal l.prog w K mg base "_law_free_docs" 1 (m_free_docs_275c6) := fun base => sim__law_free_docs T d25
  have d26 : Df K mg "_law_full" (top 30) ["_law_items_here", "_law_row"] := df_mk X G a26 l26 e26 k26 fun _ _ _ _ _ _ us hl => match us, hl with | [_, _], _ => rfl
  have c26 : ∀ base : Heap, Cal l.prog w K mg base "_law_full" 101 (m_full_cf168 100) := fun base => sim__law_full T d26 100
  have d27 : Df K mg "_law_turn" (top 37) ["_law_rules", "_law_doc"] := df_mk X G a27 l27 e27 k27 fun _ _ _ _ _ _ us hl => match us, hl with | [_, _], _ => rfl
  have c27 : ∀ base : Heap, Cal l.prog w K mg base "_law_turn" 201 (m_turn_d7ca0 100) := fun base => sim__law_turn T d27 (c8 base) (c26 base) 100
  have d28 : Df K mg "_law_weight" (top 36) ["_law_rules", "_law_doc"] := df_mk X G a28 l28 e28 k28 fun _ _ _ _ _ _ us hl => match us, hl with | [_, _], _ => rfl
  have c28 : ∀ base : Heap, Cal l.prog w K mg base "_law_weight" 201 (m_weight_cea8b 100) := fun base => sim__law_weight T d28 (c8 base) (c9 base) 100
  have d29 : Df K mg "_law_agree" (top 38) ["_law_first", "_law_second", "_law_told", "_law_doc"] := df_mk X G a29 l29 e29 k29 fun _ _ _ _ _ _ us hl => match us, hl with | [_, _, _, _], _ => rfl
  have c29 : ∀ base : Heap, Cal l.prog w K mg base "_law_agree" 202 (m_agree_cecf8) := fun base => sim__law_agree T d29 (c28 base) (c27 base) (c22 base)
  have ea := hfa.symm.trans (PySem.W.mg_of X G a30)
  cases ea
  have F := fun_mk (st := top 41) l30 e30 k30
  exact ⟨PySem.W.fnOf "law" "law" (defArgs (top 41)) (defBody (top 41)) (defScope (top 41)) .none kV30 dc30 pm30 an30 cd30 ct30, fun s v => .of_eq rfl, fun base _ _ => sim_law T F (c0 base) (c1 base) (c7 base) (c6 base) (c8 base) (c11 base) (c20 base) (c24 base) (c21 base) (c25 base) (c29 base)⟩
end Sk74

open PySem PySem.W PyProof.Rows
set_option maxRecDepth 100000 in
set_option maxHeartbeats 0 in
theorem PySem.Challenge.cw_graftform_k74_two_turners_in_one_holds : PySem.Challenge.rw_graftform_k74_two_turners_in_one.Holds := by
  w_on; o_law; k_head; (case hw => w_witness2)
  k_fill
  refine Mi.law_end (l := PySem.Challenge.rw_graftform_k74_two_turners_in_one) (k := 203) (x := "_law_script") (F := Mi.m_law_d94d6) Mi.main_k74 rfl rfl ⟨rfl, by decide, by decide⟩ (fun w h Y => PySem.W.kIn_of Y) ?F
  case F =>
    intro w mg fa h KX G hmg
    refine' Sk74.all_mk KX G hmg ?a0 ?l0 ?e0 ?k0 ?a1 ?l1 ?e1 ?k1 ?a2 ?l2 ?e2 ?k2 ?a3 ?l3 ?e3 ?k3 ?a4 ?l4 ?e4 ?k4 ?a5 ?l5 ?e5 ?k5 ?a6 ?l6 ?e6 ?k6 ?a7 ?l7 ?e7 ?k7 ?a8 ?l8 ?e8 ?k8 ?a9 ?l9 ?e9 ?k9 ?a10 ?l10 ?e10 ?k10 ?a11 ?l11 ?e11 ?k11 ?a12 ?l12 ?e12 ?k12 ?a13 ?l13 ?e13 ?k13 ?a14 ?l14 ?e14 ?k14 ?a15 ?l15 ?e15 ?k15 ?a16 ?l16 ?e16 ?k16 ?a17 ?l17 ?e17 ?k17 ?a18 ?l18 ?e18 ?k18 ?a19 ?l19 ?e19 ?k19 ?a20 ?l20 ?e20 ?k20 ?a21 ?l21 ?e21 ?k21 ?a22 ?l22 ?e22 ?k22 ?a23 ?l23 ?e23 ?k23 ?a24 ?l24 ?e24 ?k24 ?a25 ?l25 ?e25 ?k25 ?a26 ?l26 ?e26 ?k26 ?a27 ?l27 ?e27 ?k27 ?a28 ?l28 ?e28 ?k28 ?a29 ?l29 ?e29 ?k29 ?a30 ?l30 ?e30 ?k30 ?zb_ValueError ?zb_all ?zb_any ?zb_bool ?zb_int ?zb_isinstance ?zb_len ?zb_list ?zb_max ?zb_min ?zb_range ?zb_reversed ?zb_str ?zb_tuple ?zb_zip ?zg_HOLE ?zg_ITEMS ?zg_NESTED ?zg_TURNS ?zf_ex_TooMany ?zf_is_GraftError ?zf_is_NoTurner_TooLarge ?zf_is_ValueError ?zf_r_TooMany
    (case a0 => k_is)
    (case l0 => k_is)
    (case e0 => k_is)
    (case k0 => k_is)
    (case a1 => k_is)
    (case l1 => k_is)
    (case e1 => k_is)
    (case k1 => k_is)
    (case a2 => k_is)
    (case l2 => k_is)
    (case e2 => k_is)
    (case k2 => k_is)
    (case a3 => k_is)
    (case l3 => k_is)
    (case e3 => k_is)
    (case k3 => k_is)
    (case a4 => k_is)
    (case l4 => k_is)
    (case e4 => k_is)
    (case k4 => k_is)
    (case a5 => k_is)
    (case l5 => k_is)
    (case e5 => k_is)
    (case k5 => k_is)
    (case a6 => k_is)
    (case l6 => k_is)
    (case e6 => k_is)
    (case k6 => k_is)
    (case a7 => k_is)
    (case l7 => k_is)
    (case e7 => k_is)
    (case k7 => k_is)
    (case a8 => k_is)
    (case l8 => k_is)
    (case e8 => k_is)
    (case k8 => k_is)
    (case a9 => k_is)
    (case l9 => k_is)
    (case e9 => k_is)
    (case k9 => k_is)
    (case a10 => k_is)
    (case l10 => k_is)
    (case e10 => k_is)
    (case k10 => k_is)
    (case a11 => k_is)
    (case l11 => k_is)
    (case e11 => k_is)
    (case k11 => k_is)
    (case a12 => k_is)
    (case l12 => k_is)
    (case e12 => k_is)
    (case k12 => k_is)
    (case a13 => k_is)
    (case l13 => k_is)
    (case e13 => k_is)
    (case k13 => k_is)
    (case a14 => k_is)
    (case l14 => k_is)
    (case e14 => k_is)
    (case k14 => k_is)
    (case a15 => k_is)
    (case l15 => k_is)
    (case e15 => k_is)
    (case k15 => k_is)
    (case a16 => k_is)
    (case l16 => k_is)
    (case e16 => k_is)
    (case k16 => k_is)
    (case a17 => k_is)
    (case l17 => k_is)
    (case e17 => k_is)
    (case k17 => k_is)
    (case a18 => k_is)
    (case l18 => k_is)
    (case e18 => k_is)
    (case k18 => k_is)
    (case a19 => k_is)
    (case l19 => k_is)
    (case e19 => k_is)
    (case k19 => k_is)
    (case a20 => k_is)
    (case l20 => k_is)
    (case e20 => k_is)
    (case k20 => k_is)
    (case a21 => k_is)
    (case l21 => k_is)
    (case e21 => k_is)
    (case k21 => k_is)
    (case a22 => k_is)
    (case l22 => k_is)
    (case e22 => k_is)
    (case k22 => k_is)
    (case a23 => k_is)
    (case l23 => k_is)
    (case e23 => k_is)
    (case k23 => k_is)
    (case a24 => k_is)
    (case l24 => k_is)
    (case e24 => k_is)
    (case k24 => k_is)
    (case a25 => k_is)
    (case l25 => k_is)
    (case e25 => k_is)
    (case k25 => k_is)
    (case a26 => k_is)
    (case l26 => k_is)
    (case e26 => k_is)
    (case k26 => k_is)
    (case a27 => k_is)
    (case l27 => k_is)
    (case e27 => k_is)
    (case k27 => k_is)
    (case a28 => k_is)
    (case l28 => k_is)
    (case e28 => k_is)
    (case k28 => k_is)
    (case a29 => k_is)
    (case l29 => k_is)
    (case e29 => k_is)
    (case k29 => k_is)
    (case a30 => k_is)
    (case l30 => k_is)
    (case e30 => k_is)
    (case k30 => k_is)
    (case zb_ValueError => k_is)
    (case zb_all => k_is)
    (case zb_any => k_is)
    (case zb_bool => k_is)
    (case zb_int => k_is)
    (case zb_isinstance => k_is)
    (case zb_len => k_is)
    (case zb_list => k_is)
    (case zb_max => k_is)
    (case zb_min => k_is)
    (case zb_range => k_is)
    (case zb_reversed => k_is)
    (case zb_str => k_is)
    (case zb_tuple => k_is)
    (case zb_zip => k_is)
    (case zg_HOLE => k_is)
    (case zg_ITEMS => k_is)
    (case zg_NESTED => k_is)
    (case zg_TURNS => k_is)
    (case zf_ex_TooMany => kernel_rfl)
    (case zf_is_GraftError => kernel_rfl)
    (case zf_is_NoTurner_TooLarge => kernel_rfl)
    (case zf_is_ValueError => kernel_rfl)
    (case zf_r_TooMany => kernel_rfl)

