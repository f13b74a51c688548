import PyProof.Rows.All
import Wide.All
import OpenK.AllK
import Wide.FinOn
import HandS.ForMost
import HandS.Exc
import HandS.TryOnly
import HandS.ExcOwn
import HandS.WordsExc
import HandS.Wide
import HandS.WideBits
import HandS.EndBits
import HandS.IsInst
import HandS.TupAny
import HandS.Style
import HandS.RevRange
import HandS.Deep
import HandS.Strs
import HandS.Conv
import HandS.Flow
import HandS.DeepEq
import KE.KeyNested
import HandS.ExcInit
import HandS.ExcIs
import HandS.ExcField
import KE.KExcIs
import HandS.Iter
import HandS.TupMul
import HandS.Zip
import HandS.Defaults
import HandS.CallSlots
import KE.KDictSum
import KE.SortData
import HandS.ExcValue
import HandS.Text
import HandS.SetFor
import HandS.TupSets
import KE.KDictPairs
import PyProof.Rows.TupTab
import HandS.More
import HandS.ClsMeth
import KE.KRevSl
import KE.DataMinMax
import KE.KIndexWalk
import PyProof.DictMoreH
import PyProof.Rows.RowBridgeK
import HandS.SetKeys
import KE.KDictCopyH
import PyProof.WalksMore
import PyProof.Rows.CallKwBuiltin
import HandS.StrMore
import KE.KDictDisplayH
import KE.GoesMore
import KE.KTurns
import KE.KEqDict
import KE.DataCmp
import KE.KDictWalk
import HandS.TupLen
import HandS.WordsDict
import PySem.Challenge.RW_graftform_k03_places_counted
set_option Elab.async false
set_option linter.all false
set_option maxRecDepth 100000
set_option maxHeartbeats 4000000
/-! Mir: each def of the program as a Lean function over plain values (tuples by value, lists, dicts, instances in a heap of their own, numbered), and the proof that the def does what the function says. -/
namespace Mi
open PySem L2

inductive D where
  | non | bl (b : Bool) | int (i : Int) | str (x : Str) | tup (l : List D) | ref (i : Nat) | xo (c f : Str) (v : D)
mutual
def D.dec : (a b : D) → Decidable (a = b)
  | .non, .non => .isTrue rfl
  | .non, .bl _ => .isFalse (fun e => nomatch e)
  | .non, .int _ => .isFalse (fun e => nomatch e)
  | .non, .str _ => .isFalse (fun e => nomatch e)
  | .non, .tup _ => .isFalse (fun e => nomatch e)
  | .non, .ref _ => .isFalse (fun e => nomatch e)
  | .bl _, .non => .isFalse (fun e => nomatch e)
  | .bl a, .bl b => if h : a = b then .isTrue (by rw [h]) else .isFalse (fun e => h (D.bl.inj e))
  | .bl _, .int _ => .isFalse (fun e => nomatch e)
  | .bl _, .str _ => .isFalse (fun e => nomatch e)
  | .bl _, .tup _ => .isFalse (fun e => nomatch e)
  | .bl _, .ref _ => .isFalse (fun e => nomatch e)
  | .int _, .non => .isFalse (fun e => nomatch e)
  | .int _, .bl _ => .isFalse (fun e => nomatch e)
  | .int a, .int b => if h : a = b then .isTrue (by rw [h]) else .isFalse (fun e => h (D.int.inj e))
  | .int _, .str _ => .isFalse (fun e => nomatch e)
  | .int _, .tup _ => .isFalse (fun e => nomatch e)
  | .int _, .ref _ => .isFalse (fun e => nomatch e)
  | .str _, .non => .isFalse (fun e => nomatch e)
  | .str _, .bl _ => .isFalse (fun e => nomatch e)
  | .str _, .int _ => .isFalse (fun e => nomatch e)
  | .str a, .str b => if h : a = b then .isTrue (by rw [h]) else .isFalse (fun e => h (D.str.inj e))
  | .str _, .tup _ => .isFalse (fun e => nomatch e)
  | .str _, .ref _ => .isFalse (fun e => nomatch e)
  | .tup _, .non => .isFalse (fun e => nomatch e)
  | .tup _, .bl _ => .isFalse (fun e => nomatch e)
  | .tup _, .int _ => .isFalse (fun e => nomatch e)
  | .tup _, .str _ => .isFalse (fun e => nomatch e)
  | .tup a, .tup b => match D.decs a b with
    | .isTrue h => .isTrue (by rw [h])
    | .isFalse h => .isFalse (fun e => h (D.tup.inj e))
  | .tup _, .ref _ => .isFalse (fun e => nomatch e)
  | .ref _, .non => .isFalse (fun e => nomatch e)
  | .ref _, .bl _ => .isFalse (fun e => nomatch e)
  | .ref _, .int _ => .isFalse (fun e => nomatch e)
  | .ref _, .str _ => .isFalse (fun e => nomatch e)
  | .ref _, .tup _ => .isFalse (fun e => nomatch e)
  | .ref a, .ref b => if h : a = b then .isTrue (by rw [h]) else .isFalse (fun e => h (D.ref.inj e))
  | .non, .xo _ _ _ => .isFalse (fun e => nomatch e)
  | .xo _ _ _, .non => .isFalse (fun e => nomatch e)
  | .bl _, .xo _ _ _ => .isFalse (fun e => nomatch e)
  | .xo _ _ _, .bl _ => .isFalse (fun e => nomatch e)
  | .int _, .xo _ _ _ => .isFalse (fun e => nomatch e)
  | .xo _ _ _, .int _ => .isFalse (fun e => nomatch e)
  | .str _, .xo _ _ _ => .isFalse (fun e => nomatch e)
  | .xo _ _ _, .str _ => .isFalse (fun e => nomatch e)
  | .tup _, .xo _ _ _ => .isFalse (fun e => nomatch e)
  | .xo _ _ _, .tup _ => .isFalse (fun e => nomatch e)
  | .ref _, .xo _ _ _ => .isFalse (fun e => nomatch e)
  | .xo _ _ _, .ref _ => .isFalse (fun e => nomatch e)
  | .xo c f v, .xo c' f' v' => match D.dec v v' with
    | .isTrue h => if k : c = c' ∧ f = f' then .isTrue (by rw [h, k.1, k.2]) else .isFalse (fun e => by cases e; exact k ⟨rfl, rfl⟩)
    | .isFalse h => .isFalse (fun e => by cases e; exact h rfl)
def D.decs : (a b : List D) → Decidable (a = b)
  | [], [] => .isTrue rfl
  | [], _ :: _ => .isFalse (fun e => nomatch e)
  | _ :: _, [] => .isFalse (fun e => nomatch e)
  | a :: r, b :: s => match D.dec a b, D.decs r s with
    | .isTrue h, .isTrue k => .isTrue (by rw [h, k])
    | .isFalse h, _ => .isFalse (fun e => h (List.cons.inj e).1)
    | _, .isFalse k => .isFalse (fun e => k (List.cons.inj e).2)
end
instance : DecidableEq D := D.dec

inductive MO where
  | lst (l : List D) | rol (l : List D) | dK (kvs : List (Key × D)) | ins (c : Str) (fs : List (Str × D)) | dN (kvs : List (NestedKey × D)) | fK (kvs : List (Key × D)) | dT (kvs : List (D × D)) | fT (kvs : List (D × D))
deriving DecidableEq

abbrev MH := List MO
abbrev Slots := List (Option D)

inductive R (α : Type) where
  | ok (a : α) (h : MH) | exc (x : Str) (fs : List (Str × D)) (h : MH) | bad

def R.bind {α β : Type} (r : R α) (f : α → MH → R β) : R β := match r with
  | .ok a h => f a h
  | .exc x fs h => .exc x fs h
  | .bad => .bad
/-- the written part, the classes by name -/
structure G where
  K : PySem.W.Frag
  cm : Str → Option Addr
  w : World

/-! ### values and the heap -/
/-- a tuple that is known to the object: it has no dict of its own -/
def Tk (K : PySem.W.Frag) (H : Hp) (p : Addr) (xs : List V) : Prop :=
  (∃ ob : Obj, ob.dict = none ∧ H p = some (.frz ob (.tup xs))) ∨ ∃ (ob : Obj) (ws : Array Value) (n : Nat), K.lookup p = some ob ∧ ob.cls = .type "tuple" ∧ ob.dict = none ∧ ob.data = .seq ws n ∧ ws.size ≤ sizeLine ∧ Vals xs ws.toList
theorem Tk.sq {K : PySem.W.Frag} {H : Hp} {p : Addr} {xs : List V} (h : Tk K H p xs) : SqT K H p xs := by
  rcases h with ⟨ob, _, h⟩ | ⟨ob, ws, n, h1, h2, _, h3⟩
  · exact .inl (.inr ⟨ob, h⟩)
  · exact .inr ⟨ob, ws, n, h1, h2, h3⟩
/-- an exception that is kept: its class, its dict -/
def XOk (C : Addr) (d : Option Addr) (a : Addr) : HO := .ext fun h => ∃ (oe : Obj) (vs : Array Value), h.get? a = some oe ∧ Zc (.ref C) d oe ∧ oe.data = .fields vs
def isX (p : Addr) (u : HO) : Prop := (∃ C d, u = XOk C d p) ∨ ∃ fs, u = .xd fs
mutual
inductive VR (g : G) (H : Hp) (μ : List Addr) : V → D → Prop
  | non : VR g H μ .non .non
  | bl (b : Bool) : VR g H μ (.bl b) (.bl b)
  | int (i : Int) : VR g H μ (.int i) (.int i)
  | str (x : Str) : VR g H μ (.str x) (.str x)
  | ref {p : Addr} {i : Nat} : μ[i]? = some p → VR g H μ (.ref p) (.ref i)
  | tup {p : Addr} {xs : List V} {ds : List D} : Tk g.K H p xs → VRs g H μ xs ds → VR g H μ (.ref p) (.tup ds)
  | xo {p C : Addr} {d : Option Addr} {c f : Str} {v : V} {dv : D} : H p = some (XOk C d p) → g.cm c = some C → ((f = Str.ofString "" ∧ d = none) ∨ ∃ dd fv, d = some dd ∧ H dd = some (.xd fv) ∧ fv.lookup f = some v) → VR g H μ v dv → VR g H μ (.ref p) (.xo c f dv)
inductive VRs (g : G) (H : Hp) (μ : List Addr) : List V → List D → Prop
  | nil : VRs g H μ [] []
  | cons {v : V} {d : D} {vs : List V} {ds : List D} : VR g H μ v d → VRs g H μ vs ds → VRs g H μ (v :: vs) (d :: ds)
end
mutual
/-- a thing as a key -/
def nkD : D → Option NestedKey
  | .non => some .none
  | .bl b => some (.num (if b = true then 1 else 0))
  | .int i => some (.num i)
  | .str x => some (.text x)
  | .tup l => (nkDs l).map NestedKey.tup
  | .ref _ => none
  | .xo _ _ _ => none
def nkDs : List D → Option (List NestedKey)
  | [] => some []
  | d :: l => match nkD d, nkDs l with
    | some k, some ks => some (k :: ks)
    | _, _ => none
end
/-- a dict whose keys are tuples -/
def DN (w : World) (a : Addr) (xs : List (NestedKey × Addr × Value)) : HO := .ext fun h => xs.length ≤ sizeLine ∧ (a == sysModules) = false ∧ ∃ o es ep, h.get? a = some o ∧ o.ExactDict ∧ o.data = .dict es ep ∧ es.toList = xs.map (fun x => ⟨x.1.hash w, .ref x.2.1, x.2.2⟩) ∧ (xs.map (·.1)).Nodup
inductive NR (g : G) (H : Hp) (μ : List Addr) : List (NestedKey × Addr × Value) → List (NestedKey × D) → Prop
  | nil : NR g H μ [] []
  | cons {k : NestedKey} {a : Addr} {u : Value} {e d : D} {v : V} {xs : List (NestedKey × Addr × Value)} {ds : List (NestedKey × D)} : VR g H μ (.ref a) e → nkD e = some k → k.depth ≤ 8 → RelV v u → VR g H μ v d → NR g H μ xs ds → NR g H μ ((k, a, u) :: xs) ((k, d) :: ds)
/-- a dict with tuple keys whose key objects are known -/
inductive TR (g : G) (H : Hp) (μ : List Addr) : List (NestedKey × Addr × Value) → List (D × D) → Prop
  | nil : TR g H μ [] []
  | cons {k : NestedKey} {a : Addr} {u : Value} {e d : D} {v : V} {xs : List (NestedKey × Addr × Value)} {ds : List (D × D)} : VR g H μ (.ref a) e → nkD e = some k → k.depth ≤ 8 → RelV v u → VR g H μ v d → TR g H μ xs ds → TR g H μ ((k, a, u) :: xs) ((e, d) :: ds)
inductive KR {κ : Type} (g : G) (H : Hp) (μ : List Addr) : List (κ × V) → List (κ × D) → Prop
  | nil : KR g H μ [] []
  | cons {k : κ} {v : V} {d : D} {vs : List (κ × V)} {ds : List (κ × D)} : VR g H μ v d → KR g H μ vs ds → KR g H μ ((k, v) :: vs) ((k, d) :: ds)
inductive SR (g : G) (H : Hp) (μ : List Addr) : List (Option V) → Slots → Prop
  | nil : SR g H μ [] []
  | no {o : Option V} {σ : List (Option V)} {ρ : Slots} : SR g H μ σ ρ → SR g H μ (o :: σ) (none :: ρ)
  | yes {v : V} {d : D} {σ : List (Option V)} {ρ : Slots} : VR g H μ v d → SR g H μ σ ρ → SR g H μ (some v :: σ) (some d :: ρ)

/-- a list that is only read -/
def Lk (K : PySem.W.Frag) (H : Hp) (a : Addr) (xs : List V) : Prop :=
  (∃ o, H a = some (.frz o (.lst xs))) ∨ ∃ (o : Obj) (its : Array Value) (n : Nat), K.lookup a = some o ∧ o.cls = .type "list" ∧ o.dict = none ∧ o.data = .seq its n ∧ its.size ≤ sizeLine ∧ Vals xs its.toList
theorem Lk.sq {K : PySem.W.Frag} {H : Hp} {a : Addr} {xs : List V} (h : Lk K H a xs) : SqL K H a xs := by
  rcases h with ⟨o, h⟩ | h
  · exact .inl (.inr ⟨o, h⟩)
  · exact .inr h

def OR (g : G) (H : Hp) (μ : List Addr) (p : Addr) : MO → Prop
  | .lst ds => ∃ xs, H p = some (.lst xs) ∧ VRs g H μ xs ds
  | .rol ds => ∃ xs, Lk g.K H p xs ∧ VRs g H μ xs ds
  | .dK kvs => ∃ kv, H p = some (.dK kv) ∧ KR g H μ kv kvs
  | .ins c fs => ∃ C dx fv, H p = some (.ins C dx fv) ∧ g.cm c = some C ∧ KR g H μ fv fs
  | .dN kvs => ∃ xs, H p = some (DN g.w p xs) ∧ NR g H μ xs kvs
  | .fK kvs => ∃ o kv, H p = some (.frz o (.dK kv)) ∧ KR g H μ kv kvs
  | .dT kvs => ∃ xs, H p = some (DN g.w p xs) ∧ TR g H μ xs kvs
  | .fT kvs => ∃ o xs, H p = some (.frz o (DN g.w p xs)) ∧ TR g H μ xs kvs
def isMut : MO → Bool
  | .rol _ => false
  | _ => true
structure HR (g : G) (H : Hp) (μ : List Addr) (h : MH) : Prop where
  len : μ.length = h.length
  ob : ∀ (i : Nat) (p : Addr) (o : MO), μ[i]? = some p → h[i]? = some o → OR g H μ p o
  nd : ∀ (i j : Nat) (p : Addr) (o u : MO), μ[i]? = some p → μ[j]? = some p → h[i]? = some o → h[j]? = some u → isMut o = true → isMut u = true → i = j

/-- what stands stands on: the tuples, the numbering -/
structure Mon (g : G) (H H' : Hp) (μ μ' : List Addr) : Prop where
  pre : μ <+: μ'
  tups : ∀ p xs, Tk g.K H p xs → Tk g.K H' p xs
  xs : ∀ p u, isX p u → H p = some u → H' p = some u
  fz : ∀ p w v, H p = some (.frz w v) → H' p = some (.frz w v)
section
variable {g : G} {H H1 H2 : Hp} {μ μ1 μ2 : List Addr}
theorem Mon.refl : Mon g H H μ μ := ⟨List.prefix_rfl, fun _ _ h => h, fun _ _ _ h => h, fun _ _ _ h => h⟩
theorem Mon.trans (a : Mon g H H1 μ μ1) (b : Mon g H1 H2 μ1 μ2) : Mon g H H2 μ μ2 := ⟨a.pre.trans b.pre, fun p xs h => b.tups p xs (a.tups p xs h), fun p u x h => b.xs p u x (a.xs p u x h), fun p w v h => b.fz p w v (a.fz p w v h)⟩
theorem Mon.ix (m : Mon g H H1 μ μ1) {i : Nat} {p : Addr} (h : μ[i]? = some p) : μ1[i]? = some p := by
  obtain ⟨t, rfl⟩ := m.pre
  rw [List.getElem?_append_left (List.getElem?_eq_some_iff.mp h).1]
  exact h
mutual
theorem VR.mono (m : Mon g H H1 μ μ1) : ∀ {v : V} {d : D}, VR g H μ v d → VR g H1 μ1 v d
  | _, _, .non => .non
  | _, _, .bl b => .bl b
  | _, _, .int i => .int i
  | _, _, .str x => .str x
  | _, _, .ref h => .ref (m.ix h)
  | _, _, .tup h hs => .tup (m.tups _ _ h) (VRs.mono m hs)
  | _, _, .xo h c f v => .xo (m.xs _ _ (.inl ⟨_, _, rfl⟩) h) c (by
      rcases f with f | ⟨dd, fv, e1, e2, e3⟩
      · exact .inl f
      · exact .inr ⟨dd, fv, e1, m.xs _ _ (.inr ⟨_, rfl⟩) e2, e3⟩) (VR.mono m v)
theorem VRs.mono (m : Mon g H H1 μ μ1) : ∀ {vs : List V} {ds : List D}, VRs g H μ vs ds → VRs g H1 μ1 vs ds
  | _, _, .nil => .nil
  | _, _, .cons a b => .cons (VR.mono m a) (VRs.mono m b)
end
theorem KR.mono {κ : Type} (m : Mon g H H1 μ μ1) : ∀ {vs : List (κ × V)} {ds : List (κ × D)}, KR g H μ vs ds → KR g H1 μ1 vs ds
  | _, _, .nil => .nil
  | _, _, .cons a b => .cons (a.mono m) (KR.mono m b)
theorem NR.mono (m : Mon g H H1 μ μ1) : ∀ {xs : List (NestedKey × Addr × Value)} {ds : List (NestedKey × D)}, NR g H μ xs ds → NR g H1 μ1 xs ds
  | _, _, .nil => .nil
  | _, _, .cons a e l r v b => .cons (a.mono m) e l r (v.mono m) (NR.mono m b)
theorem TR.mono (m : Mon g H H1 μ μ1) : ∀ {xs : List (NestedKey × Addr × Value)} {ds : List (D × D)}, TR g H μ xs ds → TR g H1 μ1 xs ds
  | _, _, .nil => .nil
  | _, _, .cons a e l r v b => .cons (a.mono m) e l r (v.mono m) (TR.mono m b)
theorem SR.mono (m : Mon g H H1 μ μ1) : ∀ {σ : List (Option V)} {ρ : Slots}, SR g H μ σ ρ → SR g H1 μ1 σ ρ
  | _, _, .nil => .nil
  | _, _, .no b => .no (SR.mono m b)
  | _, _, .yes a b => .yes (a.mono m) (SR.mono m b)
theorem VRs.length : ∀ {vs : List V} {ds : List D}, VRs g H μ vs ds → vs.length = ds.length
  | _, _, .nil => rfl
  | _, _, .cons _ b => by rw [List.length_cons, List.length_cons, VRs.length b]
theorem VRs.get : ∀ {vs : List V} {ds : List D} {i : Nat} {d : D}, VRs g H μ vs ds → ds[i]? = some d → ∃ v, vs[i]? = some v ∧ VR g H μ v d
  | _, _, _, _, .nil, e => by simp at e
  | _, _, 0, _, .cons a _, e => by
    simp only [List.getElem?_cons_zero, Option.some.injEq] at e
    subst e
    exact ⟨_, rfl, a⟩
  | _, _, i + 1, _, .cons _ b, e => by
    obtain ⟨v, h1, h2⟩ := VRs.get (i := i) b (by simpa using e)
    exact ⟨v, by simpa using h1, h2⟩
theorem VRs.append : ∀ {vs ws : List V} {ds es : List D}, VRs g H μ vs ds → VRs g H μ ws es → VRs g H μ (vs ++ ws) (ds ++ es)
  | _, _, _, _, .nil, h => h
  | _, _, _, _, .cons a b, h => .cons a (VRs.append b h)
theorem VRs.take (n : Nat) : ∀ {vs : List V} {ds : List D}, VRs g H μ vs ds → VRs g H μ (vs.take n) (ds.take n) := by
  induction n with
  | zero => intro vs ds _; simp only [List.take_zero]; exact .nil
  | succ n ih =>
    intro vs ds h
    cases h with
    | nil => simp only [List.take_nil]; exact .nil
    | cons a b => simp only [List.take_succ_cons]; exact .cons a (ih b)
theorem VRs.drop (n : Nat) : ∀ {vs : List V} {ds : List D}, VRs g H μ vs ds → VRs g H μ (vs.drop n) (ds.drop n) := by
  induction n with
  | zero => intro vs ds h; exact h
  | succ n ih =>
    intro vs ds h
    cases h with
    | nil => simp only [List.drop_nil]; exact .nil
    | cons a b => simp only [List.drop_succ_cons]; exact ih b
theorem VRs.set (i : Nat) {v : V} {d : D} (r : VR g H μ v d) : ∀ {vs : List V} {ds : List D}, VRs g H μ vs ds → VRs g H μ (vs.set i v) (ds.set i d) := by
  induction i with
  | zero =>
    intro vs ds h
    cases h with
    | nil => exact .nil
    | cons a b => exact .cons r b
  | succ n ih =>
    intro vs ds h
    cases h with
    | nil => exact .nil
    | cons a b => exact .cons a (ih b)
theorem VRs.reverse : ∀ {vs : List V} {ds : List D}, VRs g H μ vs ds → VRs g H μ vs.reverse ds.reverse
  | _, _, .nil => .nil
  | _, _, .cons a b => by
    rw [List.reverse_cons, List.reverse_cons]
    exact (VRs.reverse b).append (.cons a .nil)
theorem VRs.dropLast : ∀ {vs : List V} {ds : List D}, VRs g H μ vs ds → VRs g H μ vs.dropLast ds.dropLast
  | _, _, .nil => .nil
  | _, _, .cons a .nil => .nil
  | _, _, .cons a (.cons b c) => .cons a (VRs.dropLast (.cons b c))
theorem VRs.one {v : V} {d : D} (a : VR g H μ v d) : VRs g H μ [v] [d] := .cons a .nil
theorem SR.get : ∀ {σ : List (Option V)} {ρ : Slots} {i : Nat} {d : D}, SR g H μ σ ρ → ρ[i]? = some (some d) → ∃ v, σ[i]? = some (some v) ∧ VR g H μ v d
  | _, _, _, _, .nil, e => by simp at e
  | _, _, 0, _, .no _, e => by simp at e
  | _, _, 0, _, .yes a _, e => by
    simp only [List.getElem?_cons_zero, Option.some.injEq] at e
    subst e
    exact ⟨_, rfl, a⟩
  | _, _, i + 1, _, .no b, e => by
    obtain ⟨v, h1, h2⟩ := SR.get (i := i) b (by simpa using e)
    exact ⟨v, by simpa using h1, h2⟩
  | _, _, i + 1, _, .yes _ b, e => by
    obtain ⟨v, h1, h2⟩ := SR.get (i := i) b (by simpa using e)
    exact ⟨v, by simpa using h1, h2⟩
theorem SR.set (i : Nat) {v : V} {d : D} (r : VR g H μ v d) : ∀ {σ : List (Option V)} {ρ : Slots}, SR g H μ σ ρ → SR g H μ (σ.set i (some v)) (ρ.set i (some d)) := by
  induction i with
  | zero =>
    intro σ ρ h
    cases h with
    | nil => exact .nil
    | no b => exact .yes r b
    | yes a b => exact .yes r b
  | succ n ih =>
    intro σ ρ h
    cases h with
    | nil => exact .nil
    | no b => exact .no (ih b)
    | yes a b => exact .yes a (ih b)
theorem SR.unset (i : Nat) (o : Option V) : ∀ {σ : List (Option V)} {ρ : Slots}, SR g H μ σ ρ → SR g H μ (σ.set i o) (ρ.set i none) := by
  induction i with
  | zero =>
    intro σ ρ h
    cases h with
    | nil => exact .nil
    | no b => exact .no b
    | yes a b => exact .no b
  | succ n ih =>
    intro σ ρ h
    cases h with
    | nil => exact .nil
    | no b => exact .no (ih b)
    | yes a b => exact .yes a (ih b)
theorem SR.start : ∀ {vs : List V} {ds : List D} (n : Nat), VRs g H μ vs ds → SR g H μ (vs.map some ++ List.replicate n none) (ds.map some ++ List.replicate n none)
  | _, _, n, .nil => by
    show SR g H μ (List.replicate n none) (List.replicate n none)
    induction n with
    | zero => exact .nil
    | succ n ih => rw [List.replicate_succ]; exact .no ih
  | _, _, n, .cons a b => .yes a (SR.start n b)

/-! ### the heap changes -/
/-- a place that may be written: neither a tuple's nor a locked thing's -/
def Saf (H : Hp) (p : Addr) : Prop := ∀ u, H p = some u → ((∀ xs, u ≠ .tup xs) ∧ ¬ isX p u) ∧ ∀ o v, u ≠ .frz o v
theorem Saf.fresh {p : Addr} (h : H p = none) : Saf H p := fun u e => by rw [h] at e; cases e
theorem Saf.lst {p : Addr} {xs : List V} (h : H p = some (.lst xs)) : Saf H p := fun u e => by
  rw [h] at e
  cases e
  exact ⟨⟨fun _ z => (nomatch z), fun z => by rcases z with ⟨_, _, z⟩ | ⟨_, z⟩ <;> exact nomatch z⟩, fun _ _ z => (nomatch z)⟩
theorem Saf.dK {p : Addr} {xs : List (Key × V)} (h : H p = some (.dK xs)) : Saf H p := fun u e => by
  rw [h] at e
  cases e
  exact ⟨⟨fun _ z => (nomatch z), fun z => by rcases z with ⟨_, _, z⟩ | ⟨_, z⟩ <;> exact nomatch z⟩, fun _ _ z => (nomatch z)⟩
theorem Saf.ins {p C dx : Addr} {xs : List (Str × V)} (h : H p = some (.ins C dx xs)) : Saf H p := fun u e => by
  rw [h] at e
  cases e
  exact ⟨⟨fun _ z => (nomatch z), fun z => by rcases z with ⟨_, _, z⟩ | ⟨_, z⟩ <;> exact nomatch z⟩, fun _ _ z => (nomatch z)⟩
theorem dn_ne {w : World} {p C : Addr} {d : Option Addr} {xs : List (NestedKey × Addr × Value)} : DN w p xs ≠ XOk C d p := fun z => by
  unfold DN XOk at z
  injection z with z
  have hh : ∃ h : Heap, ∃ (oe : Obj) (vs : Array Value), h.get? p = some oe ∧ Zc (.ref C) d oe ∧ oe.data = .fields vs := by
    refine ⟨{ objs := Array.replicate (p + 1) { cls := .ref C, dict := d, data := .fields #[] } }, { cls := .ref C, dict := d, data := .fields #[] }, #[], ?_, ?_, rfl⟩
    · simp [Heap.get?]
    · exact ⟨rfl, rfl⟩
  obtain ⟨h, oe, vs, h1, h2, h3⟩ := hh
  have z2 := congrFun z h
  obtain ⟨_, _, o, es, ep, e1, _, e3, _⟩ := z2.mpr ⟨oe, vs, h1, h2, h3⟩
  rw [h1] at e1
  cases e1
  rw [h3] at e3
  cases e3
theorem Saf.dN {p : Addr} {w : World} {xs : List (NestedKey × Addr × Value)} (h : H p = some (DN w p xs)) : Saf H p := fun u e => by
  rw [h] at e
  cases e
  exact ⟨⟨fun _ z => (nomatch z), fun z => by
    rcases z with ⟨_, _, z⟩ | ⟨_, z⟩
    · exact dn_ne z
    · exact nomatch z⟩, fun _ _ z => (nomatch z)⟩
theorem Saf.mon {p : Addr} {o : HO} (s : Saf H p) : Mon g H (upd H p o) μ μ := ⟨List.prefix_rfl, fun q xs h => by
  rcases h with ⟨u, hu, h⟩ | h
  · refine .inl ⟨u, hu, ?_⟩
    rw [upd_ne]
    · exact h
    · rintro rfl; exact (s _ h).2 u _ rfl
  · exact .inr h, fun q u x h => by
    rw [upd_ne]
    · exact h
    · rintro rfl; exact (s _ h).1.2 x, fun q w v h => by
    rw [upd_ne]
    · exact h
    · rintro rfl; exact (s _ h).2 w v rfl⟩
theorem OR.mono_at {p : Addr} {o : MO} (m : Mon g H H1 μ μ1) (k : ∀ u, H p = some u → H1 p = some u) (h : OR g H μ p o) : OR g H1 μ1 p o := by
  cases o with
  | lst ds => obtain ⟨xs, a, b⟩ := h; exact ⟨xs, k _ a, b.mono m⟩
  | rol ds =>
    obtain ⟨xs, a, b⟩ := h
    refine ⟨xs, ?_, b.mono m⟩
    rcases a with ⟨u, a⟩ | a
    · exact .inl ⟨u, k _ a⟩
    · exact .inr a
  | dK kvs => obtain ⟨xs, a, b⟩ := h; exact ⟨xs, k _ a, b.mono m⟩
  | ins c fs => obtain ⟨C, dx, xs, a, c', b⟩ := h; exact ⟨C, dx, xs, k _ a, c', b.mono m⟩
  | dN kvs => obtain ⟨xs, a, b⟩ := h; exact ⟨xs, k _ a, b.mono m⟩
  | fK kvs => obtain ⟨u, xs, a, b⟩ := h; exact ⟨u, xs, k _ a, b.mono m⟩
  | dT kvs => obtain ⟨xs, a, b⟩ := h; exact ⟨xs, k _ a, b.mono m⟩
  | fT kvs => obtain ⟨u, xs, a, b⟩ := h; exact ⟨u, xs, k _ a, b.mono m⟩
theorem OR.mut {p : Addr} {o : MO} (h : OR g H μ p o) (hm : isMut o = true) : ∃ u, H p = some u := by
  cases o with
  | lst ds => obtain ⟨xs, a, b⟩ := h; exact ⟨_, a⟩
  | rol ds => cases hm
  | dK kvs => obtain ⟨xs, a, b⟩ := h; exact ⟨_, a⟩
  | ins c fs => obtain ⟨C, dx, xs, a, c', b⟩ := h; exact ⟨_, a⟩
  | dN kvs => obtain ⟨xs, a, b⟩ := h; exact ⟨_, a⟩
  | fK kvs => obtain ⟨u, xs, a, b⟩ := h; exact ⟨_, a⟩
  | dT kvs => obtain ⟨xs, a, b⟩ := h; exact ⟨_, a⟩
  | fT kvs => obtain ⟨u, xs, a, b⟩ := h; exact ⟨_, a⟩
/-- a new thing is laid that is no cell of h -/
theorem HR.laid {h : MH} {p : Addr} {o : HO} (r : HR g H μ h) (hp : H p = none) : HR g (upd H p o) μ h :=
  ⟨r.len, fun i q u hi hu => (r.ob i q u hi hu).mono_at (Saf.fresh hp).mon fun w e => by rw [upd_ne (ne_of_none e hp)]; exact e, r.nd⟩
/-- a new cell -/
theorem HR.push {h : MH} {p : Addr} {o : HO} {u : MO} (r : HR g H μ h) (hp : H p = none) (hu : OR g (upd H p o) (μ ++ [p]) p u) : HR g (upd H p o) (μ ++ [p]) (h ++ [u]) := by
  have m : Mon g H (upd H p o) μ (μ ++ [p]) := ⟨List.prefix_append _ _, (Saf.fresh hp : Saf H p).mon (g := g) (μ := μ) (o := o) |>.tups, (Saf.fresh hp : Saf H p).mon (g := g) (μ := μ) (o := o) |>.xs, (Saf.fresh hp : Saf H p).mon (g := g) (μ := μ) (o := o) |>.fz⟩
  have key : ∀ (i : Nat) (q : Addr), (μ ++ [p])[i]? = some q → (i < μ.length ∧ μ[i]? = some q) ∨ (i = μ.length ∧ q = p) := fun i q e => by
    by_cases hi : i < μ.length
    · rw [List.getElem?_append_left hi] at e; exact .inl ⟨hi, e⟩
    · rw [List.getElem?_append_right (by omega)] at e
      have : i - μ.length = 0 := by
        have := (List.getElem?_eq_some_iff.mp e).1
        simp at this; omega
      rw [this] at e
      simp at e
      exact .inr ⟨by omega, e.symm⟩
  have keyh : ∀ (i : Nat) (w : MO), (h ++ [u])[i]? = some w → (i < h.length ∧ h[i]? = some w) ∨ (i = h.length ∧ w = u) := fun i w e => by
    by_cases hi : i < h.length
    · rw [List.getElem?_append_left hi] at e; exact .inl ⟨hi, e⟩
    · rw [List.getElem?_append_right (by omega)] at e
      have : i - h.length = 0 := by
        have := (List.getElem?_eq_some_iff.mp e).1
        simp at this; omega
      rw [this] at e
      simp at e
      exact .inr ⟨by omega, e.symm⟩
  have l := r.len
  refine ⟨by simp [l], fun i q w hi hw => ?_, fun i j q w v hi hj hw hv m1 m2 => ?_⟩
  · rcases key i q hi with ⟨a, b⟩ | ⟨a, b⟩
    · rcases keyh i w hw with ⟨c, d⟩ | ⟨c, d⟩
      · exact (r.ob i q w b d).mono_at m fun x e => by rw [upd_ne (ne_of_none e hp)]; exact e
      · omega
    · rcases keyh i w hw with ⟨c, d⟩ | ⟨c, d⟩
      · omega
      · subst b d; exact hu
  · rcases key i q hi with ⟨a, b⟩ | ⟨a, b⟩ <;> rcases key j q hj with ⟨a', b'⟩ | ⟨a', b'⟩
    · rcases keyh i w hw with ⟨c, d⟩ | ⟨c, d⟩
      · rcases keyh j v hv with ⟨c', d'⟩ | ⟨c', d'⟩
        · exact r.nd i j q w v b b' d d' m1 m2
        · omega
      · omega
    · rcases keyh i w hw with ⟨c, d⟩ | ⟨c, d⟩
      · obtain ⟨x, e⟩ := (r.ob i q w b d).mut m1
        subst b'
        rw [hp] at e; cases e
      · omega
    · rcases keyh j v hv with ⟨c, d⟩ | ⟨c, d⟩
      · obtain ⟨x, e⟩ := (r.ob j q v b' d).mut m2
        subst b
        rw [hp] at e; cases e
      · omega
    · omega
/-- a cell is written -/
theorem HR.write {h : MH} {i : Nat} {p : Addr} {o : HO} {u w : MO} (r : HR g H μ h) (hi : μ[i]? = some p) (hw : h[i]? = some w) (mw : isMut w = true) (s : Saf H p) (mu : isMut u = true) (hu : OR g (upd H p o) μ p u) : HR g (upd H p o) μ (h.set i u) := by
  have m : Mon g H (upd H p o) μ μ := s.mon
  have hlt : i < h.length := (List.getElem?_eq_some_iff.mp hw).1
  refine ⟨by rw [List.length_set]; exact r.len, fun j q v hj hv => ?_, fun j k q v x hj hk hv hx m1 m2 => ?_⟩
  · by_cases e : i = j
    · subst e
      rw [List.getElem?_set_self hlt] at hv
      rw [hi] at hj
      cases hj; cases hv
      exact hu
    · rw [List.getElem?_set_ne e] at hv
      have old := r.ob j q v hj hv
      cases mv : isMut v with
      | true =>
        refine old.mono_at m fun x ex => ?_
        rw [upd_ne]
        · exact ex
        · rintro rfl; exact e (r.nd i j q w v hi hj hw hv mw mv)
      | false =>
        cases v with
        | rol ds =>
          obtain ⟨xs, a, b⟩ := old
          refine ⟨xs, ?_, b.mono m⟩
          rcases a with ⟨u', a⟩ | a
          · refine .inl ⟨u', ?_⟩
            rw [upd_ne]
            · exact a
            · rintro rfl; exact (s _ a).2 _ _ rfl
          · exact .inr a
        | lst ds => cases mv
        | dK kvs => cases mv
        | ins c fs => cases mv
        | dN kvs => cases mv
        | fK kvs => cases mv
        | dT kvs => cases mv
        | fT kvs => cases mv
  · have key : ∀ (j : Nat) (v : MO), (h.set i u)[j]? = some v → isMut v = true → ∃ v', h[j]? = some v' ∧ isMut v' = true := fun j v hv mv => by
      by_cases e : i = j
      · subst e; exact ⟨w, hw, mw⟩
      · rw [List.getElem?_set_ne e] at hv; exact ⟨v, hv, mv⟩
    obtain ⟨v', hv', mv'⟩ := key j v hv m1
    obtain ⟨x', hx', mx'⟩ := key k x hx m2
    exact r.nd j k q v' x' hj hk hv' hx' mv' mx'
end

/-! ### rules that lay tuples, the new one known to the object -/
section
variable {X : Cx} {es : List Expr} {t : TA} {pos : Pos}
def tTupF (t : TA) : TE := fun σ H Q => t σ H fun xs H1 => xs.length ≤ sizeLine ∧ ∀ (p : Addr) (ob : Obj), H1 p = none → ob.dict = none → Q (.ref p) (upd H1 p (.frz ob (.tup xs)))
theorem pe_tupF {x1} (h : PA X es t) : PE X (.Tuple es x1 pos) (tTupF t) := by
  refine ⟨fun pins s σ H Q I hq => ?_⟩
  refine wpAny_Tuple_spliced (thn (h.run pos pins s σ H _ I hq) fun us s1 ⟨xs, H1, I1, rv, zl, q⟩ => ⟨by rw [← rv.length]; exact zl, ?_⟩)
  have new : H1 s1.heap.objs.size = none := I1.hok.fresh (Nat.le_refl _)
  refine ⟨.ref s1.heap.objs.size, upd H1 s1.heap.objs.size (.frz { cls := .type "tuple", data := .seq us.toArray } (.tup xs)), I1.laid (t' := s1.toks) (fun b u e => Heap.get?_push_of_some _ e) (Nat.le_refl _) ?_, rfl, q _ _ new rfl⟩
  exact ⟨Heap.get?_push_size _ rfl, zl, us, rv, PyProof.Rows.IsTup.new _ _⟩
def rTupF (K : PySem.W.Frag) : List V → Hp → VK → Prop := fun xs H Q => ∃ p ys, xs = [.ref p] ∧ ((SqL K H p ys ∧ ∀ (l : Addr) (ob : Obj), H l = none → ob.dict = none → Q (.ref l) (upd H l (.frz ob (.tup ys)))) ∨ (SqT K H p ys ∧ Q (.ref p) H))
def rCatF (K : PySem.W.Frag) : R2 := fun x y H Q => ∃ a b xs ys, x = .ref a ∧ y = .ref b ∧ SqT K H a xs ∧ SqT K H b ys ∧ xs.length + ys.length ≤ sizeLine ∧
  (xs = [] → Q (.ref b) H) ∧ (xs ≠ [] → ys = [] → Q (.ref a) H) ∧ (xs ≠ [] → ys ≠ [] → ∀ (p : Addr) (ob : Obj), H p = none → ob.dict = none → Q (.ref p) (upd H p (.frz ob (.tup (xs ++ ys)))))
theorem op_catF : OpR X (binaryOp .Add) (rCatF X.K) := by
  intro pins s σ H x y v u Q I rx ry hh
  obtain ⟨a, b, xs, ys, rfl, rfl, ha, hb, zl, q0, q1, q2⟩ := hh
  cases rx
  cases ry
  obtain ⟨ws1, r1, p1, _⟩ := I.tuple ha
  obtain ⟨ws2, r2, p2, _⟩ := I.tuple hb
  by_cases hx : xs = []
  · subst hx
    cases r1
    exact cat_tup0 p1 p2 ⟨.ref b, H, I, rfl, q0 rfl⟩
  · refine HT.cat_tup p1 p2 (fun z => hx (r1.nil_iff.mp z)) (fun z => ⟨.ref a, H, I, rfl, q1 hx (r2.nil_iff.mp z)⟩) (fun z => ?_) (by rw [← r1.length, ← r2.length]; exact zl)
    refine ⟨.ref s.heap.objs.size, upd H s.heap.objs.size (.frz { cls := .type "tuple", data := .seq (ws1 ++ ws2).toArray } (.tup (xs ++ ys))), ?_, rfl, q2 hx (fun w => z (r2.nil_iff.mpr w)) _ _ (I.hok.fresh (Nat.le_refl _)) rfl⟩
    exact I.laid (t' := s.toks) (fun b ob e => Heap.get?_push_of_some _ e) (Nat.le_refl _) ⟨Heap.get?_push_size _ rfl, by rw [List.length_append]; exact zl, _, r1.append r2, PyProof.Rows.IsTup.new _ _⟩
def rSlF (K : PySem.W.Frag) : V → Option Int → Option Int → Hp → VK → Prop := fun x lo hi H Q => ∃ a xs, x = .ref a ∧ SqT K H a xs ∧
  (HT.sIx xs.length 0 lo = 0 ∧ HT.sIx xs.length xs.length hi = xs.length → Q (.ref a) H) ∧ (¬ (HT.sIx xs.length 0 lo = 0 ∧ HT.sIx xs.length xs.length hi = xs.length) → ∀ (p : Addr) (ob : Obj), H p = none → ob.dict = none → Q (.ref p) (upd H p (.frz ob (.tup (cutV xs lo hi)))))
theorem sl_tupF : SlR X (rSlF X.K) := by
  intro pins s σ H x v vl vu lo hi sl Q I rx hs pl pu hh
  obtain ⟨a, xs, rfl, hx, q1, q2⟩ := hh
  by_cases hw : HT.sIx xs.length 0 lo = 0 ∧ HT.sIx xs.length xs.length hi = xs.length
  · exact sl_tupA pins s σ H _ v vl vu lo hi sl Q I rx hs pl pu ⟨a, xs, rfl, hx, q1, fun z => absurd hw z⟩
  · cases rx
    obtain ⟨ws, rv, ht, zl⟩ := I.tuple hx
    have el : ws.toArray.size = xs.length := by rw [List.size_toArray]; exact rv.length.symm
    refine ⟨"tuple", _, PyProof.Rows.slot_tuple_getitem.lookup, ht.typeIs, ?_⟩
    refine HT.getItem_tuple_cut ht hs pl pu (by rw [el]; exact hw) ?_ (by rw [el]; exact zl)
    rw [el]
    refine ⟨.ref s.heap.objs.size, upd H s.heap.objs.size (.frz { cls := .type "tuple", data := .seq ((ws.drop (HT.sIx xs.length 0 lo)).take (HT.sIx xs.length xs.length hi - HT.sIx xs.length 0 lo)).toArray } (.tup (cutV xs lo hi))), ?_, rfl, q2 hw _ _ (I.hok.fresh (Nat.le_refl _)) rfl⟩
    exact I.laid (t' := s.toks) (fun b ob e => Heap.get?_push_of_some _ e) (Nat.le_refl _) ⟨Heap.get?_push_size _ rfl, Nat.le_trans (cutV_length xs lo hi) zl, _, (rv.drop _).take _, PyProof.Rows.IsTup.new _ _⟩
end
end Mi
namespace Mi
open PySem L2

/-! ### what is wanted behind -/
/-- an exception of the class named x with these fields -/
def XR (g : G) (H : Hp) (μ : List Addr) (cls : Value) (d : Option Addr) (x : Str) (fs : List (Str × D)) : Prop :=
  ∃ C, cls = .ref C ∧ g.cm x = some C ∧ ((fs = [] ∧ d = none) ∨ ∃ dd fv, fs ≠ [] ∧ d = some dd ∧ H dd = some (.xd fv) ∧ KR g H μ fv fs)
def Bk {α β : Type} (rel : Hp → List Addr → β → α → Prop) (g : G) (H : Hp) (μ : List Addr) (r : R α) (Q : β → Hp → Prop) (W : XK) : Prop := match r with
  | .ok a h' => ∀ b H' μ', Mon g H H' μ μ' → HR g H' μ' h' → rel H' μ' b a → Q b H'
  | .exc x fs h' => ∀ cls d H' μ', Mon g H H' μ μ' → HR g H' μ' h' → XR g H' μ' cls d x fs → W cls d H'
  | .bad => False
abbrev eqR : Hp → List Addr → Bool → Bool → Prop := fun _ _ b a => b = a
abbrev opR : Hp → List Addr → Option Int → Option Int → Prop := fun _ _ b a => b = a
section
variable {g : G} {H H1 : Hp} {μ μ1 : List Addr} {α α' β β' : Type} {rel : Hp → List Addr → β → α → Prop} {rel' : Hp → List Addr → β' → α' → Prop}
theorem Bk.mono {r : R α} {Q : β → Hp → Prop} {W : XK} (m : Mon g H H1 μ μ1) (h : Bk rel g H μ r Q W) : Bk rel g H1 μ1 r Q W := by
  cases r with
  | ok a h' => exact fun b H' μ' m' => h b H' μ' (m.trans m')
  | exc x fs h' => exact fun cls d H' μ' m' => h cls d H' μ' (m.trans m')
  | bad => exact h
theorem Bk.bind {r : R α} {f : α → MH → R α'} {Q : β → Hp → Prop} {Q' : β' → Hp → Prop} {W : XK} (hb : Bk rel' g H μ (r.bind f) Q' W)
    (k : ∀ a h1 b H1 μ1, r = .ok a h1 → Mon g H H1 μ μ1 → HR g H1 μ1 h1 → rel H1 μ1 b a → Bk rel' g H1 μ1 (f a h1) Q' W → Q b H1) : Bk rel g H μ r Q W := by
  cases r with
  | ok a h' => exact fun b H' μ' m hr hv => k a h' b H' μ' rfl m hr hv (Bk.mono m hb)
  | exc x fs h' => exact hb
  | bad => exact hb
end

abbrev ME := Slots → MH → R D
abbrev MT := Slots → MH → R Bool
abbrev MA := Slots → MH → R (List D)
abbrev MP := Slots → MH → R (Option Int)
def tX {α β : Type} (rel : G → Hp → List Addr → β → α → Prop) (g : G) (W : WX) (m : Slots → MH → R α) : St → Hp → (β → Hp → Prop) → Prop := fun σ H Q =>
  ∃ ρ h μ, SR g H μ σ ρ ∧ HR g H μ h ∧ Bk (rel g) g H μ (m ρ h) Q (fun c d H' => W c d σ H')
abbrev tE (g : G) (W : WX) (m : ME) : TE := tX VR g W m
abbrev tT (g : G) (W : WX) (m : MT) : TT := tX (fun _ => eqR) g W m
abbrev tA (g : G) (W : WX) (m : MA) : TA := tX VRs g W m
abbrev tP (g : G) (W : WX) (m : MP) : TO := tX (fun _ => opR) g W m

inductive Out where
  | nx (ρ : Slots) (h : MH) | rt (d : D) (h : MH) | bk (ρ : Slots) (h : MH) | ct (ρ : Slots) (h : MH) | exc (x : Str) (fs : List (Str × D)) (ρ : Slots) (h : MH) | bad
abbrev MS := Slots → MH → Out
def BkS (g : G) (H : Hp) (μ : List Addr) (o : Out) (E : Ends) (W : WX) : Prop := match o with
  | .nx ρ h => ∀ σ' H' μ', Mon g H H' μ μ' → SR g H' μ' σ' ρ → HR g H' μ' h → E.nx σ' H'
  | .rt d h => ∀ v H' μ', Mon g H H' μ μ' → HR g H' μ' h → VR g H' μ' v d → E.rt v H'
  | .bk ρ h => ∀ σ' H' μ', Mon g H H' μ μ' → SR g H' μ' σ' ρ → HR g H' μ' h → E.bk σ' H'
  | .ct ρ h => ∀ σ' H' μ', Mon g H H' μ μ' → SR g H' μ' σ' ρ → HR g H' μ' h → E.ct σ' H'
  | .exc x fs ρ h => ∀ cls d σ' H' μ', Mon g H H' μ μ' → SR g H' μ' σ' ρ → HR g H' μ' h → XR g H' μ' cls d x fs → W cls d σ' H'
  | .bad => False
theorem BkS.mono {g : G} {H H1 : Hp} {μ μ1 : List Addr} {o : Out} {E : Ends} {W : WX} (m : Mon g H H1 μ μ1) (h : BkS g H μ o E W) : BkS g H1 μ1 o E W := by
  cases o with
  | nx ρ h' => exact fun σ' H' μ' m' => h σ' H' μ' (m.trans m')
  | rt d h' => exact fun v H' μ' m' => h v H' μ' (m.trans m')
  | bk ρ h' => exact fun σ' H' μ' m' => h σ' H' μ' (m.trans m')
  | ct ρ h' => exact fun σ' H' μ' m' => h σ' H' μ' (m.trans m')
  | exc x fs ρ h' => exact fun cls d σ' H' μ' m' => h cls d σ' H' μ' (m.trans m')
  | bad => exact h
def tS (g : G) (W : WX) (m : MS) : TS := fun E σ H => ∃ ρ h μ, SR g H μ σ ρ ∧ HR g H μ h ∧ BkS g H μ (m ρ h) E W

/-- an expression's end within a statement -/
def R.out {α : Type} (r : R α) (ρ : Slots) (k : α → MH → Out) : Out := match r with
  | .ok a h => k a h
  | .exc x fs h => .exc x fs ρ h
  | .bad => .bad
section
variable {g : G} {W : WX} {α β α' β' : Type} {rel : G → Hp → List Addr → β → α → Prop} {rel' : G → Hp → List Addr → β' → α' → Prop} {σ : St} {H : Hp} {μ : List Addr} {ρ : Slots} {h : MH}
/-- one part is read; what follows it -/
theorem step {ma : Slots → MH → R α} {f : α → MH → R α'} {Q : β → Hp → Prop} {Q' : β' → Hp → Prop} (sr : SR g H μ σ ρ) (hr : HR g H μ h) (hb : Bk (rel' g) g H μ ((ma ρ h).bind f) Q' (fun c d H' => W c d σ H'))
    (k : ∀ b a h1 H1 μ1, Mon g H H1 μ μ1 → SR g H1 μ1 σ ρ → HR g H1 μ1 h1 → rel g H1 μ1 b a → Bk (rel' g) g H1 μ1 (f a h1) Q' (fun c d H' => W c d σ H') → Q b H1) : tX rel g W ma σ H Q :=
  ⟨ρ, h, μ, sr, hr, Bk.bind hb fun a h1 b H1 μ1 _ m hr1 hv bk => k b a h1 H1 μ1 m (sr.mono m) hr1 hv bk⟩
theorem stepS {ma : Slots → MH → R α} {f : α → MH → Out} {Q : β → Hp → Prop} {E : Ends} (sr : SR g H μ σ ρ) (hr : HR g H μ h) (hb : BkS g H μ ((ma ρ h).out ρ f) E W)
    (k : ∀ b a h1 H1 μ1, Mon g H H1 μ μ1 → SR g H1 μ1 σ ρ → HR g H1 μ1 h1 → rel g H1 μ1 b a → BkS g H1 μ1 (f a h1) E W → Q b H1) : tX rel g W ma σ H Q := by
  refine ⟨ρ, h, μ, sr, hr, ?_⟩
  cases e : ma ρ h with
  | ok a h' =>
    rw [e] at hb
    exact fun b H' μ' m hr' hv => k b a h' H' μ' m (sr.mono m) hr' hv (BkS.mono m hb)
  | exc x fs h' =>
    rw [e] at hb
    exact fun cls d H' μ' m hr' hx => hb cls d σ H' μ' m (sr.mono m) hr' hx
  | bad =>
    rw [e] at hb
    exact hb
end

/-! ### the judgements are monotone -/
section
variable {X : Cx}
theorem pe_mono {e : Expr} {t t' : TE} (h : PE X e t) (hm : ∀ σ H Q, t' σ H Q → t σ H Q) : PE X e t' := ⟨fun pins s σ H Q I q => h.run pins s σ H Q I (hm σ H Q q)⟩
theorem pt_mono {e : Expr} {t t' : TT} (h : PT X e t) (hm : ∀ σ H Q, t' σ H Q → t σ H Q) : PT X e t' := ⟨fun pins s σ H Q I q => h.run pins s σ H Q I (hm σ H Q q)⟩
theorem pw_mono {e : Expr} {t t' : TT} (h : PW X e t) (hm : ∀ σ H Q, t' σ H Q → t σ H Q) : PW X e t' := ⟨fun wh pins s σ H Q I q => h.run wh pins s σ H Q I (hm σ H Q q)⟩
theorem pa_mono {es : List Expr} {t t' : TA} (h : PA X es t) (hm : ∀ σ H Q, t' σ H Q → t σ H Q) : PA X es t' := ⟨fun pos pins s σ H Q I q => h.run pos pins s σ H Q I (hm σ H Q q)⟩
theorem ps_mono {st : Stmt} {t t' : TS} (h : PS X st t) (hm : ∀ E σ H, t' E σ H → t E σ H) : PS X st t' := ⟨fun pins s σ H E I q => h.run pins s σ H E I (hm E σ H q)⟩
theorem pss_mono {st : List Stmt} {t t' : TS} (h : PSs X st t) (hm : ∀ E σ H, t' E σ H → t E σ H) : PSs X st t' := ⟨fun pins s σ H E I q => h.run pins s σ H E I (hm E σ H q)⟩
end

/-! ### plain parts -/
def mVar (i : Nat) : ME := fun ρ h => match ρ[i]? with
  | some (some d) => .ok d h
  | _ => .bad
def mC (d : D) : ME := fun _ h => .ok d h
def mBin (f : D → D → MH → R D) (a b : ME) : ME := fun ρ h => (a ρ h).bind fun x h1 => (b ρ h1).bind fun y h2 => f x y h2
def mUn (f : D → MH → R D) (a : ME) : ME := fun ρ h => (a ρ h).bind fun x h1 => f x h1
def mNil : MA := fun _ h => .ok [] h
def mCons (a : ME) (r : MA) : MA := fun ρ h => (a ρ h).bind fun x h1 => (r ρ h1).bind fun xs h2 => .ok (x :: xs) h2
def mTup (a : MA) : ME := fun ρ h => (a ρ h).bind fun xs h1 => if xs.length ≤ 1000000 then .ok (.tup xs) h1 else .bad
def mLst (a : MA) : ME := fun ρ h => (a ρ h).bind fun xs h1 => if xs.length ≤ 1000000 then .ok (.ref h1.length) (h1 ++ [.lst xs]) else .bad
def mCall (F : List D → MH → R D) (a : MA) : ME := fun ρ h => (a ρ h).bind fun xs h1 => F xs h1

/-- an operation by values -/
def S2 (g : G) (r : R2) (f : D → D → MH → R D) : Prop := ∀ (H : Hp) (μ : List Addr) (h : MH) (x y : V) (a b : D) (Q : VK) (W : XK), HR g H μ h → VR g H μ x a → VR g H μ y b → Bk (VR g) g H μ (f a b h) Q W → r x y H Q
def S1 (g : G) (r : V → Hp → VK → Prop) (f : D → MH → R D) : Prop := ∀ (H : Hp) (μ : List Addr) (h : MH) (x : V) (a : D) (Q : VK) (W : XK), HR g H μ h → VR g H μ x a → Bk (VR g) g H μ (f a h) Q W → r x H Q
def SN (g : G) (r : List V → Hp → VK → Prop) (f : List D → MH → R D) : Prop := ∀ (H : Hp) (μ : List Addr) (h : MH) (xs : List V) (ds : List D) (Q : VK) (W : XK), HR g H μ h → VRs g H μ xs ds → Bk (VR g) g H μ (f ds h) Q W → r xs H Q
def SM (g : G) (r : V → List V → Hp → VK → Prop) (f : D → List D → MH → R D) : Prop := ∀ (H : Hp) (μ : List Addr) (h : MH) (x : V) (xs : List V) (a : D) (ds : List D) (Q : VK) (W : XK), HR g H μ h → VR g H μ x a → VRs g H μ xs ds → Bk (VR g) g H μ (f a ds h) Q W → r x xs H Q

section
variable {g : G} {H : Hp} {μ : List Addr} {h : MH} {Q : VK} {W : XK}
/-- the ends of an operation -/
theorem Bk.val {v : V} {d : D} (hb : Bk (VR g) g H μ (.ok d h) Q W) (hr : HR g H μ h) (hv : VR g H μ v d) : Q v H := hb v H μ Mon.refl hr hv
theorem Bk.newT {xs : List V} {ds : List D} {p : Addr} {ob : Obj} (hb : Bk (VR g) g H μ (.ok (.tup ds) h) Q W) (hr : HR g H μ h) (hv : VRs g H μ xs ds) (hp : H p = none) (ho : ob.dict = none) : Q (.ref p) (upd H p (.frz ob (.tup xs))) := by
  have m : Mon g H (upd H p (.frz ob (.tup xs))) μ μ := (Saf.fresh hp).mon
  exact hb _ _ μ m (hr.laid hp) (.tup (.inl ⟨ob, ho, upd_same⟩) (hv.mono m))
theorem mon_push {p : Addr} {o : HO} (hp : H p = none) : Mon g H (upd H p o) μ (μ ++ [p]) := ⟨List.prefix_append _ _, ((Saf.fresh hp : Saf H p).mon (g := g) (μ := μ) (o := o)).tups, ((Saf.fresh hp : Saf H p).mon (g := g) (μ := μ) (o := o)).xs, ((Saf.fresh hp : Saf H p).mon (g := g) (μ := μ) (o := o)).fz⟩
theorem ix_push {p : Addr} {n : Nat} (l : μ.length = n) : (μ ++ [p])[n]? = some p := by
  subst l
  simp
theorem Bk.newL {xs : List V} {ds : List D} {p : Addr} (hb : Bk (VR g) g H μ (.ok (.ref h.length) (h ++ [.lst ds])) Q W) (hr : HR g H μ h) (hv : VRs g H μ xs ds) (hp : H p = none) : Q (.ref p) (upd H p (.lst xs)) :=
  hb _ _ (μ ++ [p]) (mon_push hp) (hr.push hp ⟨xs, upd_same, hv.mono (mon_push hp)⟩) (.ref (ix_push hr.len))
theorem Bk.setL {xs xs' : List V} {ds ds' : List D} {p : Addr} {i : Nat} {v : V} {d : D} (hb : Bk (VR g) g H μ (.ok d (h.set i (.lst ds'))) Q W) (hr : HR g H μ h) (hi : μ[i]? = some p) (hh : h[i]? = some (.lst ds)) (hp : H p = some (.lst xs)) (hv : VRs g H μ xs' ds') (hd : VR g H μ v d) : Q v (upd H p (.lst xs')) := by
  have m : Mon g H (upd H p (.lst xs')) μ μ := (Saf.lst hp).mon
  exact hb v _ μ m (hr.write hi hh rfl (Saf.lst hp) rfl ⟨xs', upd_same, hv.mono m⟩) (hd.mono m)
/-- a cell that is a list -/
theorem HR.lst {i : Nat} {p : Addr} {ds : List D} (hr : HR g H μ h) (hi : μ[i]? = some p) (hh : h[i]? = some (.lst ds)) : ∃ xs, H p = some (.lst xs) ∧ VRs g H μ xs ds := hr.ob i p _ hi hh
/-- a list that may be read: a cell that changes or not -/
def getL (h : MH) (i : Nat) : Option (List D) := match h[i]? with
  | some (.lst l) => some l
  | some (.rol l) => some l
  | _ => none
theorem HR.list {i : Nat} {p : Addr} {ds : List D} (hr : HR g H μ h) (hi : μ[i]? = some p) (hh : getL h i = some ds) : ∃ xs, SqL g.K H p xs ∧ VRs g H μ xs ds := by
  unfold getL at hh
  split at hh
  · rename_i l e
    cases hh
    obtain ⟨xs, a, b⟩ := hr.ob i p _ hi e
    exact ⟨xs, .inl (.inl a), b⟩
  · rename_i l e
    cases hh
    obtain ⟨xs, a, b⟩ := hr.ob i p _ hi e
    exact ⟨xs, a.sq, b⟩
  · cases hh
end
theorem sz6 {n : Nat} (h : n ≤ 1000000) : n ≤ sizeLine := Nat.le_trans h (by decide)
theorem sz6' {n : Nat} (h : n < 1000000) : n < sizeLine := Nat.lt_trans h (by decide)

section
variable {X : Cx} {g : G} {W : WX} {a b e : Expr} {ma mb : ME} {pos : Pos} {es : List Expr} {mr : MA}
theorem se_var {i : Nat} {x : Str} (hN : X.N[i]? = some x) (hv : Vis X.env.scope x) (hd : (x == ("__debug__" : Str)) = false := by decide) (hcd : (x == ("__classdict__" : Str)) = false := by decide) : PE X (.Name x pos) (tE g W (mVar i)) :=
  pe_mono (pe_var hN hv hd hcd) fun σ H Q ⟨ρ, h, μ, sr, hr, bk⟩ => by
    unfold mVar at bk
    split at bk
    · rename_i d e
      obtain ⟨v, h1, h2⟩ := sr.get e
      exact ⟨v, h1, bk.val hr h2⟩
    · exact bk.elim
theorem mv (i : Nat) {x : Str} {pos : Pos} (hN : X.N[i]? = some x := by rfl) (hv : Vis X.env.scope x := by first | exact Or.inl rfl | exact Or.inr (Or.inl rfl) | exact Or.inr (Or.inr rfl)) (hd : (x == ("__debug__" : Str)) = false := by decide)
    (hcd : (x == ("__classdict__" : Str)) = false := by decide) : PE X (.Name x pos) (tE g W (mVar i)) := se_var hN hv hd hcd
theorem se_const {v : V} {d : D} (h : PE X e (tC v)) (hv : ∀ H μ, VR g H μ v d) : PE X e (tE g W (mC d)) := pe_mono h fun σ H Q ⟨ρ, hh, μ, sr, hr, bk⟩ => bk.val hr (hv H μ)
theorem se_int {i : Int} {j : Nat} : PE X (.Constant (.int i) j pos) (tE g W (mC (.int i))) := se_const pe_int fun _ _ => .int i
theorem se_bl {i : Bool} {j : Nat} : PE X (.Constant (.bool i) j pos) (tE g W (mC (.bl i))) := se_const pe_bl fun _ _ => .bl i
theorem se_str {x : Str} {j : Nat} : PE X (.Constant (.str x) j pos) (tE g W (mC (.str x))) := se_const pe_str fun _ _ => .str x
/-- two parts by values -/
theorem two {r : R2} {f : D → D → MH → R D} (hs : S2 g r f) {σ : St} {H : Hp} {Q : VK} (q : tE g W (mBin f ma mb) σ H Q) : tOp r (tE g W ma) (tE g W mb) σ H Q := by
  obtain ⟨ρ, h, μ, sr, hr, bk⟩ := q
  exact step sr hr bk fun x a h1 H1 μ1 m1 sr1 hr1 vx bk1 => step sr1 hr1 bk1 fun y b h2 H2 μ2 m2 sr2 hr2 vy bk2 => hs H2 μ2 h2 x y a b Q _ hr2 (vx.mono m2) vy bk2
theorem se_bin {op : Operator} {r : R2} {f : D → D → MH → R D} (ho : OpR X (binaryOp op) r) (hs : S2 g r f) (ha : PE X a (tE g W ma)) (hb : PE X b (tE g W mb)) : PE X (.BinOp a op b pos) (tE g W (mBin f ma mb)) :=
  pe_mono (pe_op ho ha hb) fun σ H Q q => two hs q
theorem se_cmp {op : CmpOp} {r : R2} {f : D → D → MH → R D} (ho : OpR X (compareOp op) r) (hs : S2 g r f) (ha : PE X a (tE g W ma)) (hb : PE X b (tE g W mb)) (hm : behindInMarks op b = false) : PE X (.Compare a [op] [b] pos) (tE g W (mBin f ma mb)) :=
  pe_mono (pe_cmpR ho ha hb hm) fun σ H Q q => two hs q
theorem se_ix {r : R2} {f : D → D → MH → R D} (hx : IxR X r) (hs : S2 g r f) (ha : PE X a (tE g W ma)) (hb : PE X b (tE g W mb)) (hp : PlainIx b) : PE X (.Subscript a b pos) (tE g W (mBin f ma mb)) :=
  pe_mono (pe_ix hx ha hb hp) fun σ H Q q => two hs q

/-! ### arguments, displays -/
theorem sa_nil : PA X [] (tA g W mNil) := pa_mono pa_nil fun σ H Q ⟨ρ, h, μ, sr, hr, bk⟩ => bk [] H μ Mon.refl hr .nil
theorem sa_cons (ha : PE X e (tE g W ma)) (hr : PA X es (tA g W mr)) (hs : starEach (e :: es) X.env = (false, eval e X.env) :: starEach es X.env := by rfl) : PA X (e :: es) (tA g W (mCons ma mr)) :=
  pa_mono (pa_cons ha hr hs) fun σ H Q ⟨ρ, h, μ, sr, hr, bk⟩ => step sr hr bk fun x a h1 H1 μ1 m1 sr1 hr1 vx bk1 => step sr1 hr1 bk1 fun xs ds h2 H2 μ2 m2 sr2 hr2 vs bk2 => bk2 (x :: xs) H2 μ2 Mon.refl hr2 (.cons (vx.mono m2) vs)
theorem se_tup {x1 : Nat} (h : PA X es (tA g W mr)) : PE X (.Tuple es x1 pos) (tE g W (mTup mr)) :=
  pe_mono (pe_tupF h) fun σ H Q ⟨ρ, h, μ, sr, hr, bk⟩ => step sr hr bk fun xs ds h1 H1 μ1 m1 sr1 hr1 vs bk1 => by
    split at bk1
    · rename_i hl
      exact ⟨by rw [vs.length]; exact sz6 hl, fun p ob hp ho => bk1.newT hr1 vs hp ho⟩
    · exact bk1.elim
theorem se_lst (h : PA X es (tA g W mr)) : PE X (.List es pos) (tE g W (mLst mr)) :=
  pe_mono (pe_lst h) fun σ H Q ⟨ρ, h, μ, sr, hr, bk⟩ => step sr hr bk fun xs ds h1 H1 μ1 m1 sr1 hr1 vs bk1 => by
    split at bk1
    · rename_i hl
      exact ⟨by rw [vs.length]; exact sz6 hl, fun p hp => bk1.newL hr1 vs hp⟩
    · exact bk1.elim
/-! ### calls of built-ins -/
theorem se_callB {x : Str} {p : Pos} {id : String} {r : List V → Hp → VK → Prop} {f : List D → MH → R D} (hc : CallR X (.builtin id) r) (hs : SN g r f) (hg : Gl X x) (hm : X.mg x = none) (hv : bootBuiltins x = some (.builtin id)) (ha : PA X (e :: es) (tA g W mr))
    (hn : x ≠ "__name__" := by decide) (hdb : (x == ("__debug__" : Str)) = false := by decide)
    (he : starEach (e :: es) X.env = (false, eval e X.env) :: starEach es X.env := by rfl) (hpl : (backTo pos (starEach es X.env)).any (·.1) = false := by rfl) : PE X (.Call (.Name x p) (e :: es) [] pos) (tE g W (mCall f mr)) :=
  pe_mono (pe_callB hc hg hm hv ha hn hdb he hpl) fun σ H Q ⟨ρ, h, μ, sr, hr, bk⟩ => step sr hr bk fun xs ds h1 H1 μ1 m1 sr1 hr1 vs bk1 => hs H1 μ1 h1 xs ds Q _ hr1 vs bk1
theorem se_callTy {x : Str} {p : Pos} {T : String} {r : List V → Hp → VK → Prop} {f : List D → MH → R D} (hc : CallR X (.type T) r) (hs : SN g r f) (hg : Gl X x) (hm : X.mg x = none) (hv : bootBuiltins x = some (.type T)) (ha : PA X (e :: es) (tA g W mr))
    (hn : x ≠ "__name__" := by decide) (hdb : (x == ("__debug__" : Str)) = false := by decide)
    (he : starEach (e :: es) X.env = (false, eval e X.env) :: starEach es X.env := by rfl) (hpl : (backTo pos (starEach es X.env)).any (·.1) = false := by rfl) : PE X (.Call (.Name x p) (e :: es) [] pos) (tE g W (mCall f mr)) :=
  pe_mono (pe_callTy hc hg hm hv ha hn hdb he hpl) fun σ H Q ⟨ρ, h, μ, sr, hr, bk⟩ => step sr hr bk fun xs ds h1 H1 μ1 m1 sr1 hr1 vs bk1 => hs H1 μ1 h1 xs ds Q _ hr1 vs bk1
/-! ### methods of built-in types -/
def mMeth (T : D → MH → Bool) (f : D → List D → MH → R D) (a : ME) (r : MA) : ME := fun ρ h => (a ρ h).bind fun x h1 => if T x h1 = true then (r ρ h1).bind fun xs h2 => f x xs h2 else .bad
def isListD (x : D) (h : MH) : Bool := match x with
  | .ref i => (getL h i).isSome
  | _ => false
def isStrD (x : D) (_ : MH) : Bool := match x with
  | .str _ => true
  | _ => false
def isTupD (x : D) (_ : MH) : Bool := match x with
  | .tup _ => true
  | _ => false
/-! ### defs of the program -/
def spM (g : G) (F : List D → MH → R D) : Sp := fun vs H Q E => ∃ ds h μ, VRs g H μ vs ds ∧ HR g H μ h ∧ Bk (VR g) g H μ (F ds h) Q E
theorem se_call {k : Nat} {f : Addr} {fd : FuncData} {ps : List Str} {F : List D → MH → R D} {x : Str} {p : Pos} (FF : FnOk X.prog X.w X.K X.mg X.base (L2.CX X.prog X.w) k f fd ps (spM g F)) (hr : Room k X.A) (tk : Takes X W) (hm : X.mg x = some (.ref f)) (hk : PySem.W.keepIn X.K (.ref f) = true) (hb : Binds X.K fd ps [])
    (ha : PA X (e :: es) (tA g W mr)) (hg : Gl X x := by rfl) (hdb : (x == ("__debug__" : Str)) = false := by decide) (he : starEach (e :: es) X.env = (false, eval e X.env) :: starEach es X.env := by rfl) (hpl : (backTo pos (starEach es X.env)).any (·.1) = false := by rfl) :
    PE X (.Call (.Name x p) (e :: es) [] pos) (tE g W (mCall F mr)) :=
  pe_mono (pe_callS FF hr hg hm hk hb (fun σ => passAt tk σ) ha hdb he hpl) fun σ H Q ⟨ρ, h, μ, sr, hr, bk⟩ => step sr hr bk fun xs ds h1 H1 μ1 m1 sr1 hr1 vs bk1 => ⟨ds, h1, μ1, vs, hr1, bk1⟩

/-! ### tests -/
def mB (a : ME) : MT := fun ρ h => (a ρ h).bind fun x h1 => match x with
  | .bl b => .ok b h1
  | _ => .bad
def mAnd (a b : MT) : MT := fun ρ h => (a ρ h).bind fun x h1 => if x = true then b ρ h1 else .ok false h1
def mOr (a b : MT) : MT := fun ρ h => (a ρ h).bind fun x h1 => if x = true then .ok true h1 else b ρ h1
def mNot (a : MT) : MT := fun ρ h => (a ρ h).bind fun x h1 => .ok (!x) h1
theorem bl_of {σ : St} {H : Hp} {Q : Bool → Hp → Prop} (q : tT g W (mB ma) σ H Q) : tE g W ma σ H fun x H1 => ∃ c, x = .bl c ∧ Q c H1 := by
  obtain ⟨ρ, h, μ, sr, hr, bk⟩ := q
  refine step (rel := VR) (rel' := fun _ => eqR) (ma := ma) sr hr bk fun x a h1 H1 μ1 m1 sr1 hr1 vx bk1 => ?_
  cases vx with
  | bl b => exact ⟨b, rfl, bk1 b H1 μ1 Mon.refl hr1 rfl⟩
  | _ => exact bk1.elim
theorem st_val (ha : PE X a (tE g W ma)) (he : ∀ whole, isTrue a X.env whole = (do let v ← whole; standAt a.pos; holding [v] (truthy v)) := by intro _; rfl) : PT X a (tT g W (mB ma)) :=
  pt_mono (pt_val ha he) fun σ H Q q => bl_of q
theorem st_cmp {op : CmpOp} {r : R2} {f : D → D → MH → R D} (ho : OpR X (compareOp op) r) (hs : S2 g r f) (ha : PE X a (tE g W ma)) (hb : PE X b (tE g W mb)) (hm : behindInMarks op b = false) : PT X (.Compare a [op] [b] pos) (tT g W (mB (mBin f ma mb))) :=
  pt_mono (pt_cmpR ho ha hb hm) fun σ H Q ⟨ρ, h, μ, sr, hr, bk⟩ => by
    refine two (W := W) (f := f) hs ⟨ρ, h, μ, sr, hr, ?_⟩
    refine Bk.bind bk fun a h1 b H1 μ1 _ m hr1 hv bk1 => ?_
    cases hv with
    | bl b => exact ⟨b, rfl, bk1 b H1 μ1 Mon.refl hr1 rfl⟩
    | _ => exact bk1.elim
variable {tm um : MT} {rest : List Expr}
theorem st_not (ha : PT X a (tT g W tm)) : PT X (.UnaryOp .Not a pos) (tT g W (mNot tm)) :=
  pt_mono (pt_not ha) fun σ H Q ⟨ρ, h, μ, sr, hr, bk⟩ => step (rel := fun _ => eqR) (rel' := fun _ => eqR) (ma := tm) (Q' := Q) sr hr bk fun x a h1 H1 μ1 m1 sr1 hr1 vx bk1 => by
    cases vx
    exact bk1 _ H1 μ1 Mon.refl hr1 rfl
theorem sw_or1 (ha : PT X a (tT g W tm)) : PW X (.BoolOp .Or [a] pos) (tT g W tm) := pw_or1 ha
theorem sw_or (ha : PT X a (tT g W tm)) (hb : PW X (.BoolOp .Or (b :: rest) pos) (tT g W um)) : PW X (.BoolOp .Or (a :: b :: rest) pos) (tT g W (mOr tm um)) :=
  pw_mono (pw_or ha hb) fun σ H Q ⟨ρ, h, μ, sr, hr, bk⟩ => step (rel := fun _ => eqR) (rel' := fun _ => eqR) (ma := tm) (Q' := Q) sr hr bk fun x a h1 H1 μ1 m1 sr1 hr1 vx bk1 => by
    cases vx
    cases x with
    | false => exact ⟨ρ, h1, μ1, sr1, hr1, bk1⟩
    | true => exact bk1 _ H1 μ1 Mon.refl hr1 rfl
/-! ### and, or, not as values (of truths) -/
def mAndV (a b : ME) : ME := fun ρ h => (a ρ h).bind fun x h1 => match x with
  | .bl true => b ρ h1
  | .bl false => .ok (.bl false) h1
  | _ => .bad
def mOrV (a b : ME) : ME := fun ρ h => (a ρ h).bind fun x h1 => match x with
  | .bl false => b ρ h1
  | .bl true => .ok (.bl true) h1
  | _ => .bad
def mNotV (a : ME) : ME := fun ρ h => (a ρ h).bind fun x h1 => match x with
  | .bl b => .ok (.bl (!b)) h1
  | _ => .bad
theorem se_one {op : BoolOp} {t : TE} (h : PE X a t) : PE X (.BoolOp op [a] pos) t := pe_one h
theorem se_and (ha : PE X a (tE g W ma)) (hb : PE X (.BoolOp .And (b :: rest) pos) (tE g W mb)) : PE X (.BoolOp .And (a :: b :: rest) pos) (tE g W (mAndV ma mb)) :=
  pe_mono (pe_and ha hb) fun σ H Q ⟨ρ, h, μ, sr, hr, bk⟩ => step (rel := VR) (rel' := VR) (ma := ma) (Q' := Q) sr hr bk fun x a h1 H1 μ1 m1 sr1 hr1 vx bk1 => by
    cases vx with
    | bl b =>
      cases b with
      | true => exact ⟨true, rfl, ρ, h1, μ1, sr1, hr1, bk1⟩
      | false => exact ⟨false, rfl, bk1.val hr1 (.bl false)⟩
    | _ => exact bk1.elim
theorem se_not (ha : PE X a (tE g W ma)) : PE X (.UnaryOp .Not a pos) (tE g W (mNotV ma)) :=
  pe_mono (pe_not ha) fun σ H Q ⟨ρ, h, μ, sr, hr, bk⟩ => step (rel := VR) (rel' := VR) (ma := ma) (Q' := Q) sr hr bk fun x a h1 H1 μ1 m1 sr1 hr1 vx bk1 => by
    cases vx with
    | bl b => exact ⟨b, rfl, bk1.val hr1 (.bl _)⟩
    | _ => exact bk1.elim
def mIfE (c : MT) (a b : ME) : ME := fun ρ h => (c ρ h).bind fun x h1 => if x = true then a ρ h1 else b ρ h1
end

/-! ### statements -/
def mSkip : MS := fun ρ h => .nx ρ h
def mSeq (a b : MS) : MS := fun ρ h => match a ρ h with
  | .nx ρ' h' => b ρ' h'
  | o => o
def mBreak : MS := fun ρ h => .bk ρ h
def mCont : MS := fun ρ h => .ct ρ h
def mDrop (e : ME) : MS := fun ρ h => (e ρ h).out ρ fun _ h1 => .nx ρ h1
def mRet (e : ME) : MS := fun ρ h => (e ρ h).out ρ fun d h1 => .rt d h1
def mRetN : MS := fun _ h => .rt .non h
def mIf (c : MT) (a b : MS) : MS := fun ρ h => (c ρ h).out ρ fun x h1 => if x = true then a ρ h1 else b ρ h1
def mAsg (i : Nat) (e : ME) : MS := fun ρ h => (e ρ h).out ρ fun d h1 => .nx (ρ.set i (some d)) h1
section
variable {X : Cx} {g : G} {W : WX} {e : Expr} {me : ME} {pos : Pos} {st : Stmt} {rest : List Stmt} {ms mr : MS}
theorem ss_nil : PSs X [] (tS g W mSkip) := pss_mono pss_nil fun E σ H ⟨ρ, h, μ, sr, hr, bk⟩ => bk σ H μ Mon.refl sr hr
theorem seq_of {E : Ends} {σ : St} {H : Hp} (q : tS g W (mSeq ms mr) E σ H) : tSeq (tS g W ms) (tS g W mr) E σ H := by
  obtain ⟨ρ, h, μ, sr, hr, bk⟩ := q
  refine ⟨ρ, h, μ, sr, hr, ?_⟩
  unfold mSeq at bk
  cases e : ms ρ h with
  | nx ρ' h' =>
    rw [e] at bk
    exact fun σ' H' μ' m sr' hr' => ⟨ρ', h', μ', sr', hr', BkS.mono m bk⟩
  | rt d h' => rw [e] at bk; exact bk
  | bk ρ' h' => rw [e] at bk; exact bk
  | ct ρ' h' => rw [e] at bk; exact bk
  | exc x fs ρ' h' => rw [e] at bk; exact bk
  | bad => rw [e] at bk; exact bk
theorem ss_cons (h1 : PS X st (tS g W ms)) (h2 : PSs X rest (tS g W mr)) : PSs X (st :: rest) (tS g W (mSeq ms mr)) := pss_mono (pss_cons h1 h2) fun E σ H q => seq_of q
theorem ss_one (h1 : PS X st (tS g W ms)) : PSs X [st] (tS g W ms) := pss_one h1
theorem sx_expr (he : PE X e (tE g W me)) (hs : swapsWith e none pos.line X.env = pure false := by rfl) : PS X (.Expr e pos) (tS g W (mDrop me)) :=
  ps_mono (ps_expr he hs) fun E σ H ⟨ρ, h, μ, sr, hr, bk⟩ => stepS (rel := VR) (ma := me) (E := E) sr hr bk fun x a h1 H1 μ1 m1 sr1 hr1 vx bk1 => bk1 σ H1 μ1 Mon.refl sr1 hr1
theorem sx_ret (he : PE X e (tE g W me)) : PS X (.Return (some e) pos) (tS g W (mRet me)) :=
  ps_mono (ps_ret he) fun E σ H ⟨ρ, h, μ, sr, hr, bk⟩ => stepS (rel := VR) (ma := me) (E := E) sr hr bk fun x a h1 H1 μ1 m1 sr1 hr1 vx bk1 => bk1 x H1 μ1 Mon.refl hr1 vx
theorem sx_if {c : Expr} {a b : List Stmt} {tm : MT} (hc : PT X c (tT g W tm)) (ha : PSs X a (tS g W ms)) (hb : PSs X b (tS g W mr)) : PS X (.If c a b pos) (tS g W (mIf tm ms mr)) :=
  ps_mono (ps_if hc ha hb) fun E σ H ⟨ρ, h, μ, sr, hr, bk⟩ => stepS (rel := fun _ => eqR) (ma := tm) (E := E) sr hr bk fun x a h1 H1 μ1 m1 sr1 hr1 vx bk1 => by
    cases vx
    cases x with
    | true => exact ⟨ρ, h1, μ1, sr1, hr1, bk1⟩
    | false => exact ⟨ρ, h1, μ1, sr1, hr1, bk1⟩
theorem sx_set {i : Nat} {x : Str} {pos' : Pos} (he : PE X e (tE g W me)) (hN : X.N.Nodup) (hi : X.N[i]? = some x := by rfl) (hx : Loc X.env.scope x := by first | exact Or.inl rfl | exact Or.inr rfl) (hs : swapsWith e (some (.Name x pos')) pos.line X.env = pure false := by rfl)
    (hf : X.fn x = true ∨ X.env.scope.names.lookup x = some .local := by first | exact .inl rfl | exact .inr rfl | assumption) : PS X (.Assign [.Name x pos'] e pos) (tS g W (mAsg i me)) :=
  ps_mono (ps_set hN hi hx he hs hf) fun E σ H ⟨ρ, h, μ, sr, hr, bk⟩ => stepS (rel := VR) (ma := me) (E := E) sr hr bk fun v d h1 H1 μ1 m1 sr1 hr1 vx bk1 => bk1 _ H1 μ1 Mon.refl (sr1.set i vx) hr1
end
end Mi
namespace Mi
open PySem L2

/-! ### operators by values -/
def dAdd : D → D → MH → R D
  | .int i, .int j, h => .ok (.int (i + j)) h
  | .str x, .str y, h => if x.length + y.length ≤ 1000000 then .ok (.str (x ++ y)) h else .bad
  | .tup a, .tup b, h => if a.length + b.length ≤ 1000000 then .ok (.tup (a ++ b)) h else .bad
  | .ref i, .ref j, h => match h[i]?, h[j]? with
    | some (.lst a), some (.lst b) => if a.length + b.length ≤ 1000000 then .ok (.ref h.length) (h ++ [.lst (a ++ b)]) else .bad
    | _, _ => .bad
  | _, _, _ => .bad
def dSub : D → D → MH → R D
  | .int i, .int j, h => .ok (.int (i - j)) h
  | _, _, _ => .bad
def dMul : D → D → MH → R D
  | .int i, .int j, h => if (Builtin.Int.intBits i : Int) + (Builtin.Int.intBits j : Int) ≤ 134217728 then .ok (.int (i * j)) h else .bad
  | .str x, .int n, h => if n ≤ 1000000 ∧ -1000000 ≤ n ∧ x.length * n.toNat ≤ 1000000 then .ok (.str (Txt.mul x n)) h else .bad
  | _, _, _ => .bad
def dFdiv : D → D → MH → R D
  | .int i, .int j, h => if 0 < j ∧ j.natAbs.log2 < 9000 then .ok (.int (i / j)) h else .bad
  | _, _, _ => .bad
def dMod : D → D → MH → R D
  | .int i, .int j, h => if 0 < j then .ok (.int (i % j)) h else .bad
  | _, _, _ => .bad
def dPow : D → D → MH → R D
  | .int i, .int j, h => if 0 ≤ j ∧ j ≤ 1000000 ∧ i.natAbs < 2 ^ 64 then .ok (.int (i ^ j.toNat)) h else .bad
  | _, _, _ => .bad
def dShl : D → D → MH → R D
  | .int i, .int j, h => if 0 ≤ j ∧ j ≤ 1000000 ∧ i.natAbs < 2 ^ 64 then .ok (.int (i * 2 ^ j.toNat)) h else .bad
  | _, _, _ => .bad
def dBand : D → D → MH → R D
  | .int i, .int j, h => .ok (.int (Builtin.bitAnd i j)) h
  | _, _, _ => .bad
def dBor : D → D → MH → R D
  | .int i, .int j, h => .ok (.int (Builtin.bitOr i j)) h
  | _, _, _ => .bad
def dLt : D → D → MH → R D
  | .int i, .int j, h => .ok (.bl (decide (i < j))) h
  | _, _, _ => .bad
def dLe : D → D → MH → R D
  | .int i, .int j, h => .ok (.bl (decide (i ≤ j))) h
  | _, _, _ => .bad
def dGt : D → D → MH → R D
  | .int i, .int j, h => .ok (.bl (decide (j < i))) h
  | _, _, _ => .bad
def dGe : D → D → MH → R D
  | .int i, .int j, h => .ok (.bl (decide (j ≤ i))) h
  | _, _, _ => .bad
def dNeg : D → MH → R D
  | .int i, h => .ok (.int (-i)) h
  | _, _ => .bad

section
variable {g : G} {X : Cx}
theorem s2_int {C : Int → Int → Prop} [∀ i j, Decidable (C i j)] {o : Int → Int → Int} {f : D → D → MH → R D} (hi : ∀ i j h, f (.int i) (.int j) h = if C i j then .ok (.int (o i j)) h else .bad) (hb : ∀ a b h, (∀ i j, ¬ (a = .int i ∧ b = .int j)) → f a b h = .bad) :
    S2 g (rI C fun i j => .int (o i j)) f := by
  intro H μ h x y a b Q W hr vx vy bk
  have no : (∀ i j, ¬ (a = .int i ∧ b = .int j)) → rI C (fun i j => .int (o i j)) x y H Q := fun z => by rw [hb a b h z] at bk; exact bk.elim
  cases vx with
  | int i =>
    cases vy with
    | int j =>
      rw [hi] at bk
      by_cases c : C i j
      · rw [if_pos c] at bk
        exact ⟨i, j, rfl, rfl, c, bk.val hr (.int _)⟩
      · rw [if_neg c] at bk; exact bk.elim
    | _ => exact no fun _ _ z => nomatch z.2
  | _ => exact no fun _ _ z => nomatch z.1
theorem s2_int0 {o : Int → Int → V} {o' : Int → Int → D} {f : D → D → MH → R D} (hi : ∀ i j h, f (.int i) (.int j) h = .ok (o' i j) h) (hv : ∀ H μ i j, VR g H μ (o i j) (o' i j)) (hb : ∀ a b h, (∀ i j, ¬ (a = .int i ∧ b = .int j)) → f a b h = .bad) :
    S2 g (rI0 o) f := by
  intro H μ h x y a b Q W hr vx vy bk
  have no : (∀ i j, ¬ (a = .int i ∧ b = .int j)) → rI0 o x y H Q := fun z => by rw [hb a b h z] at bk; exact bk.elim
  cases vx with
  | int i =>
    cases vy with
    | int j =>
      rw [hi] at bk
      exact ⟨i, j, rfl, rfl, bk.val hr (hv _ _ _ _)⟩
    | _ => exact no fun _ _ z => nomatch z.2
  | _ => exact no fun _ _ z => nomatch z.1
theorem int_bad {f : D → D → MH → R D} (hf : ∀ (a b : D) (h : MH), (match a, b with | D.int _, D.int _ => True | _, _ => f a b h = .bad)) : ∀ a b h, (∀ i j, ¬ (a = .int i ∧ b = .int j)) → f a b h = .bad := fun a b h z => by
  have := hf a b h
  split at this
  · exact absurd ⟨rfl, rfl⟩ (z _ _)
  · exact this
theorem s2_sub : S2 g (rI0 fun i j => .int (i - j)) dSub := s2_int0 (o' := fun i j => .int (i - j)) (fun _ _ _ => rfl) (fun _ _ _ _ => .int _) (int_bad fun a b h => by cases a <;> cases b <;> first | trivial | rfl)
theorem s2_fdiv : S2 g (rI CDivW fun i j => .int (i / j)) dFdiv := s2_int (C := fun i j => 0 < j ∧ j.natAbs.log2 < 9000) (o := fun i j => i / j) (fun _ _ _ => rfl) (int_bad fun a b h => by cases a <;> cases b <;> first | trivial | rfl)
theorem s2_mod : S2 g (rI (fun _ j => 0 < j) fun i j => .int (i % j)) dMod := s2_int (C := fun i j => 0 < j) (o := fun i j => i % j) (fun _ _ _ => rfl) (int_bad fun a b h => by cases a <;> cases b <;> first | trivial | rfl)
theorem s2_pow : S2 g (rI CPow fun i j => .int (i ^ j.toNat)) dPow := s2_int (C := fun i j => 0 ≤ j ∧ j ≤ 1000000 ∧ i.natAbs < 2 ^ 64) (o := fun i j => i ^ j.toNat) (fun _ _ _ => rfl) (int_bad fun a b h => by cases a <;> cases b <;> first | trivial | rfl)
theorem s2_lt : S2 g (rI0 fun i j => .bl (decide (i < j))) dLt := s2_int0 (o' := fun i j => .bl (decide (i < j))) (fun _ _ _ => rfl) (fun _ _ _ _ => .bl _) (int_bad fun a b h => by cases a <;> cases b <;> first | trivial | rfl)
theorem s2_gt : S2 g (rI0 fun i j => .bl (decide (j < i))) dGt := s2_int0 (o' := fun i j => .bl (decide (j < i))) (fun _ _ _ => rfl) (fun _ _ _ _ => .bl _) (int_bad fun a b h => by cases a <;> cases b <;> first | trivial | rfl)
theorem s2_ge : S2 g (rI0 fun i j => .bl (decide (j ≤ i))) dGe := s2_int0 (o' := fun i j => .bl (decide (j ≤ i))) (fun _ _ _ => rfl) (fun _ _ _ _ => .bl _) (int_bad fun a b h => by cases a <;> cases b <;> first | trivial | rfl)
/-- + -/
def rAddA (K : PySem.W.Frag) : R2 := fun x y H Q => (rI0 (fun i j => .int (i + j)) x y H Q ∨ (∃ i j, x = .str i ∧ y = .str j ∧ i.length + j.length ≤ sizeLine ∧ Q (.str (i ++ j)) H)) ∨ (rCatF K x y H Q ∨ rCat x y H Q)
theorem op_addA : OpR X (binaryOp .Add) (rAddA X.K) := (op_add.or op_add_str).or (op_catF.or op_cat)
theorem nil_of_vrs {H : Hp} {μ : List Addr} {xs : List V} {ds : List D} (h : VRs g H μ xs ds) (e : xs = []) : ds = [] := by subst e; cases h; rfl
theorem s2_add : S2 g (rAddA g.K) dAdd := by
  intro H μ h x y a b Q W hr vx vy bk
  cases vx with
  | int i =>
    cases vy with
    | int j => exact .inl (.inl ⟨i, j, rfl, rfl, bk.val hr (.int _)⟩)
    | _ => exact bk.elim
  | str i =>
    cases vy with
    | str j =>
      simp only [dAdd] at bk
      split at bk
      · rename_i hl
        exact .inl (.inr ⟨i, j, rfl, rfl, sz6 hl, bk.val hr (.str _)⟩)
      · exact bk.elim
    | _ => exact bk.elim
  | @tup p xs ds hs vs =>
    cases vy with
    | @tup q ys es ht vt =>
      simp only [dAdd] at bk
      split at bk
      · rename_i hl
        refine .inr (.inl ⟨p, q, xs, ys, rfl, rfl, hs.sq, ht.sq, by rw [vs.length, vt.length]; exact sz6 hl, fun e => ?_, fun e e' => ?_, fun e e' r ob hr' ho => ?_⟩)
        · rw [nil_of_vrs vs e] at bk
          exact bk.val hr (.tup ht vt)
        · rw [nil_of_vrs vt e', List.append_nil] at bk
          exact bk.val hr (.tup hs vs)
        · exact bk.newT hr (vs.append vt) hr' ho
      · exact bk.elim
    | _ => exact bk.elim
  | @ref p i hi =>
    cases vy with
    | @ref q j hj =>
      simp only [dAdd] at bk
      split at bk
      · rename_i l1 l2 e1 e2
        obtain ⟨xs, h1, v1⟩ := hr.lst hi e1
        obtain ⟨ys, h2, v2⟩ := hr.lst hj e2
        split at bk
        · rename_i hl
          exact .inr (.inr ⟨p, q, xs, ys, rfl, rfl, h1, h2, by rw [v1.length, v2.length]; exact sz6 hl, fun r hr' => bk.newL hr (v1.append v2) hr'⟩)
        · exact bk.elim
      · exact bk.elim
    | _ => exact bk.elim
  | _ => exact bk.elim
/-- * -/
theorem op_mul_str : OpR X (binaryOp .Mult) (fun x y H Q => ∃ z n, x = .str z ∧ y = .int n ∧ MulOk z n ∧ Q (.str (Txt.mul z n)) H) := by
  intro pins s σ H x y v u Q I rx ry h
  obtain ⟨z, n, rfl, rfl, hok, q⟩ := h
  obtain ⟨t, rfl⟩ := rx
  obtain ⟨t', rfl⟩ := ry
  exact PySem.SB.mul hok fun t' k => ⟨.str _, H, I.tok k, ⟨t', rfl⟩, q⟩
def rMulA : R2 := fun x y H Q => rI CMulX (fun i j => .int (i * j)) x y H Q ∨ (∃ z n, x = .str z ∧ y = .int n ∧ MulOk z n ∧ Q (.str (Txt.mul z n)) H)
theorem op_mulA : OpR X (binaryOp .Mult) rMulA := op_mulX.or op_mul_str
theorem mulOk_of {z : Str} {n : Int} (h1 : n ≤ 1000000) (h2 : -1000000 ≤ n) (h3 : z.length * n.toNat ≤ 1000000) : MulOk z n := by
  refine ⟨?_, fun a b => ?_, fun a b => ?_⟩
  · rw [decide_eq_false (by omega), decide_eq_false (by omega)]; rfl
  · have hz : z.length ≤ 1000000 := Nat.le_trans (Nat.le_mul_of_pos_right _ (by omega)) h3
    have : (2 ^ 63 - 1 : Int) / n ≥ (2 ^ 63 - 1) / 1000000 := by
      have h0 : 0 < n := by omega
      rw [ge_iff_le, Int.le_ediv_iff_mul_le h0]
      have : (2 ^ 63 - 1 : Int) / 1000000 * n ≤ (2 ^ 63 - 1 : Int) / 1000000 * 1000000 := Int.mul_le_mul_of_nonneg_left h1 (by decide)
      exact Int.le_trans this (by decide)
    have h4 : ((2 ^ 63 - 1 : Int)) / 1000000 ≥ 1000000 := by decide
    omega
  · unfold Builtin.Str.tooLong
    simp only [decide_eq_false_iff_not]
    first
      | (show ¬ (z.length * n.toNat > sizeLine); rw [sizeLine_eq]; omega)
      | (rw [decide_eq_false_iff_not, sizeLine_eq]; omega)
      | (simp; omega)
theorem s2_mul : S2 g rMulA dMul := by
  intro H μ h x y a b Q W hr vx vy bk
  cases vx with
  | int i =>
    cases vy with
    | int j =>
      simp only [dMul] at bk
      split at bk
      · rename_i c
        exact .inl ⟨i, j, rfl, rfl, c, bk.val hr (.int _)⟩
      · exact bk.elim
    | _ => exact bk.elim
  | str z =>
    cases vy with
    | int n =>
      simp only [dMul] at bk
      split at bk
      · rename_i c
        exact .inr ⟨z, n, rfl, rfl, mulOk_of c.1 c.2.1 c.2.2, bk.val hr (.str _)⟩
      · exact bk.elim
    | _ => exact bk.elim
  | _ => exact bk.elim
end

/-! ### ==, != -/
def allSome {α : Type} : List (Option α) → Option (List α)
  | [] => some []
  | none :: _ => none
  | some a :: r => (allSome r).map (a :: ·)
def pyOf : Nat → MH → D → Option PyData
  | 0, _, _ => none
  | _ + 1, _, .non => some .none
  | _ + 1, _, .bl b => some (.bool b)
  | _ + 1, _, .int i => some (.int i)
  | _ + 1, _, .str x => some (.str x)
  | n + 1, h, .tup l => (allSome (l.map (pyOf n h))).map .tuple
  | n + 1, h, .ref i => (getL h i).bind fun l => (allSome (l.map (pyOf n h))).map .list
  | _ + 1, _, .xo _ _ _ => none
section
variable {g : G} {X : Cx} {H : Hp} {μ : List Addr} {h : MH}
theorem dp_all {f : D → Option PyData} (hf : ∀ d v e, VR g H μ v d → f d = some e → Dp g.K H v e) : ∀ {xs : List V} {ds : List D} {es : List PyData}, VRs g H μ xs ds → allSome (ds.map f) = some es → DpAll g.K H xs es
  | _, _, _, .nil, e => by
    simp only [List.map_nil, allSome, Option.some.injEq] at e
    subst e
    exact .nil
  | _, _, _, .cons (d := d) a b, e => by
    rw [List.map_cons] at e
    cases q : f d with
    | none => rw [q] at e; simp [allSome] at e
    | some z =>
      rw [q] at e
      simp only [allSome, Option.map_eq_some_iff] at e
      obtain ⟨r, e1, rfl⟩ := e
      exact .cons (hf _ _ _ a q) (dp_all hf b e1)
theorem dp_of (hr : HR g H μ h) : ∀ (n : Nat) (d : D) (v : V) (e : PyData), VR g H μ v d → pyOf n h d = some e → Dp g.K H v e
  | 0, _, _, _, _, q => by cases q
  | n + 1, d, v, e, a, q => by
    cases a with
    | xo _ _ _ _ => cases q
    | non => cases q; exact .non
    | bl b => cases q; exact .bl b
    | int b => cases q; exact .int b
    | str b => cases q; exact .str b
    | tup hs vs =>
      simp only [pyOf, Option.map_eq_some_iff] at q
      obtain ⟨es, q, rfl⟩ := q
      exact .tup hs.sq (dp_all (fun d v e a q => dp_of hr n d v e a q) vs q)
    | ref hi =>
      simp only [pyOf, Option.bind_eq_some_iff, Option.map_eq_some_iff] at q
      obtain ⟨l, q1, es, q2, rfl⟩ := q
      obtain ⟨xs, hs, vs⟩ := hr.list hi q1
      exact .lst hs (dp_all (fun d v e a q => dp_of hr n d v e a q) vs q2)
def shapedX (d : PyData) : Bool := d.canLay0 && decide (d.depth ≤ 160)
def rEqX (K : PySem.W.Frag) : R2 := fun x y H Q => ∃ d e, Dp K H x d ∧ Dp K H y e ∧ shapedX d = true ∧ shapedX e = true ∧ Q (.bl (PyData.eqv d e)) H
def rNeX (K : PySem.W.Frag) : R2 := fun x y H Q => ∃ d e, Dp K H x d ∧ Dp K H y e ∧ shapedX d = true ∧ shapedX e = true ∧ Q (.bl (!PyData.eqv d e)) H
theorem shX_lay {d : PyData} (h : shapedX d = true) : d.canLay0 = true := (Bool.and_eq_true_iff.mp h).1
theorem shX_dp {d : PyData} (h : shapedX d = true) : d.depth ≤ 160 := of_decide_eq_true (Bool.and_eq_true_iff.mp h).2
section
variable {X : Cx}
theorem op_eqX {n : Nat} (hu : X.A.units + n + 200 < cLine) : OpR X (compareOp .Eq) (rEqX X.K) := by
  intro pins s σ H x y v u Q I rx ry h
  obtain ⟨d, e, hd, he, sd, se, q⟩ := h
  obtain ⟨as, r1⟩ := Dp.reads I d x v hd rx
  obtain ⟨bs, r2⟩ := Dp.reads I e y u he ry
  refine PySem.SeqAt.compareEq_reads r1 r2 (shX_lay sd) (shX_lay se) ?_ ⟨.bl _, H, I, rfl, q⟩
  have h1 := shX_dp sd
  have h2 : min d.depth e.depth ≤ d.depth := Nat.min_le_left _ _
  omega
theorem op_neX {n : Nat} (hu : X.A.units + n + 200 < cLine) : OpR X (compareOp .NotEq) (rNeX X.K) := by
  intro pins s σ H x y v u Q I rx ry h
  obtain ⟨d, e, hd, he, sd, se, q⟩ := h
  obtain ⟨as, r1⟩ := Dp.reads I d x v hd rx
  obtain ⟨bs, r2⟩ := Dp.reads I e y u he ry
  refine PySem.SeqAt.compareNe_reads r1 r2 (shX_lay sd) (shX_lay se) ?_ ⟨.bl _, H, I, rfl, q⟩
  have h1 := shX_dp sd
  have h2 : min d.depth e.depth ≤ d.depth := Nat.min_le_left _ _
  omega
end
def rInX (K : PySem.W.Frag) : R2 := fun x y H Q => ∃ d ds, Dp K H x d ∧ Dp K H y (.list ds) ∧ shapedX d = true ∧ shapedX (.list ds) = true ∧ Q (.bl (ds.any fun z => PyData.eqv z d)) H
def rNotInX (K : PySem.W.Frag) : R2 := fun x y H Q => ∃ d ds, Dp K H x d ∧ Dp K H y (.list ds) ∧ shapedX d = true ∧ shapedX (.list ds) = true ∧ Q (.bl (!ds.any fun z => PyData.eqv z d)) H
section
variable {X : Cx}
end
def scalD : D → D → Bool
  | .non, .non => true | .non, .int _ => true | .int _, .non => true | .non, .bl _ => true | .bl _, .non => true | .non, .str _ => true | .str _, .non => true
  | .int _, .int _ => true | .bl _, .bl _ => true | .str _, .str _ => true
  | .int _, .str _ => true | .str _, .int _ => true | .bl _, .str _ => true | .str _, .bl _ => true
  | _, _ => false
def eqD (a b : D) (h : MH) : Option Bool := if scalD a b = true then some (decide (a = b)) else match pyOf 200 h a, pyOf 200 h b with
  | some d, some e => if shapedX d = true ∧ shapedX e = true then some (PyData.eqv d e) else none
  | _, _ => none
/-- two dicts without pairs -/
def no2 (a b : D) (h : MH) : Bool := match a, b with
  | .ref i, .ref j => decide (h[i]? = some (.dK [])) && decide (h[j]? = some (.dK []))
  | _, _ => false
/-- two tuples, one without items -/
def emp2 (a b : D) : Option Bool := match a, b with
  | .tup l, .tup m => if l = [] ∨ m = [] then some (decide (l.length = m.length)) else none
  | _, _ => none
def dEq (a b : D) (h : MH) : R D := match eqD a b h with
  | some k => .ok (.bl k) h
  | none => match emp2 a b with
    | some k => .ok (.bl k) h
    | none => if no2 a b h = true then .ok (.bl true) h else .bad
def dNe (a b : D) (h : MH) : R D := match eqD a b h with
  | some k => .ok (.bl (!k)) h
  | none => match emp2 a b with
    | some k => .ok (.bl (!k)) h
    | none => .bad
def rEqE (K : PySem.W.Frag) : R2 := fun x y H Q => ∃ a b xs ys, x = .ref a ∧ y = .ref b ∧ SqT K H a xs ∧ SqT K H b ys ∧ (xs = [] ∨ ys = []) ∧ Q (.bl (decide (xs.length = ys.length))) H
def rNeE (K : PySem.W.Frag) : R2 := fun x y H Q => ∃ a b xs ys, x = .ref a ∧ y = .ref b ∧ SqT K H a xs ∧ SqT K H b ys ∧ (xs = [] ∨ ys = []) ∧ Q (.bl (!decide (xs.length = ys.length))) H
theorem emp_ev {us ws : Array Value} {n m : Nat} (h1 : us.size = n) (h2 : ws.size = m) (h0 : n = 0 ∨ m = 0) : ((List.range (min us.size ws.size)).all (fun _ => true) && us.size == ws.size) = decide (n = m) := by
  subst h1 h2
  have : min us.size ws.size = 0 := by omega
  rw [this]
  simp only [List.range_zero, List.all_nil, Bool.true_and]
  rw [Bool.eq_iff_iff, beq_iff_eq, decide_eq_true_iff]
theorem op_eqE (hu : X.A.units + 64 < cLine) : OpR X (compareOp .Eq) (rEqE X.K) := by
  intro pins s σ H x y v u Q I rx ry hh
  obtain ⟨a, b, xs, ys, rfl, rfl, ha, hb, h0, q⟩ := hh
  cases rx
  cases ry
  obtain ⟨ws1, r1, p1, _⟩ := I.tuple ha
  obtain ⟨ws2, r2, p2, _⟩ := I.tuple hb
  have l1 : ws1.toArray.size = xs.length := by rw [List.size_toArray]; exact r1.length.symm
  have l2 : ws2.toArray.size = ys.length := by rw [List.size_toArray]; exact r2.length.symm
  have h00 : xs.length = 0 ∨ ys.length = 0 := by
    rcases h0 with z | z
    · exact .inl (by rw [z]; rfl)
    · exact .inr (by rw [z]; rfl)
  refine SeqAt.eq_tupleAt (e := fun _ => true) p1 p2 (by omega) (fun j j1 j2 => by omega) ?_
  rw [emp_ev l1 l2 h00]
  exact ⟨.bl _, H, I, rfl, q⟩
theorem op_neE (hu : X.A.units + 64 < cLine) : OpR X (compareOp .NotEq) (rNeE X.K) := by
  intro pins s σ H x y v u Q I rx ry hh
  obtain ⟨a, b, xs, ys, rfl, rfl, ha, hb, h0, q⟩ := hh
  cases rx
  cases ry
  obtain ⟨ws1, r1, p1, _⟩ := I.tuple ha
  obtain ⟨ws2, r2, p2, _⟩ := I.tuple hb
  have l1 : ws1.toArray.size = xs.length := by rw [List.size_toArray]; exact r1.length.symm
  have l2 : ws2.toArray.size = ys.length := by rw [List.size_toArray]; exact r2.length.symm
  have h00 : xs.length = 0 ∨ ys.length = 0 := by
    rcases h0 with z | z
    · exact .inl (by rw [z]; rfl)
    · exact .inr (by rw [z]; rfl)
  refine SeqAt.RcNeAt.tuples (e := fun _ => true) p1 p2 (by omega) (fun j j1 j2 => by omega) _ _ _ _ ?_
  rw [emp_ev l1 l2 h00]
  exact ⟨.bl _, H, I, rfl, q⟩
def rEqA (K : PySem.W.Frag) : R2 := fun x y H Q => rEq x y H Q ∨ (rEqX K x y H Q ∨ (rEqV K x y H Q ∨ rEqE K x y H Q))
def rNeA (K : PySem.W.Frag) : R2 := fun x y H Q => rNe x y H Q ∨ (rNeX K x y H Q ∨ rNeE K x y H Q)
theorem op_eqA {n : Nat} (hu : X.A.units + n + 200 < cLine) : OpR X (compareOp .Eq) (rEqA X.K) := op_eq.or ((op_eqX hu).or ((op_eqV (by omega)).or (op_eqE (by omega))))
theorem op_neA {n : Nat} (hu : X.A.units + n + 200 < cLine) : OpR X (compareOp .NotEq) (rNeA X.K) := op_ne.or ((op_neX hu).or (op_neE (by omega)))
theorem scal_of {x y : V} {a b : D} (vx : VR g H μ x a) (vy : VR g H μ y b) (e : scalD a b = true) : scal x y = true ∧ decide (x = y) = decide (a = b) := by
  cases vx <;> cases vy <;> first | (cases e; done) | (refine ⟨rfl, ?_⟩; simp)
theorem eq_of {x y : V} {a b : D} {k : Bool} (hr : HR g H μ h) (vx : VR g H μ x a) (vy : VR g H μ y b) (e : eqD a b h = some k) :
    (scal x y = true ∧ decide (x = y) = k) ∨ ∃ d e, Dp g.K H x d ∧ Dp g.K H y e ∧ shapedX d = true ∧ shapedX e = true ∧ PyData.eqv d e = k := by
  unfold eqD at e
  split at e
  · rename_i s
    obtain ⟨h1, h2⟩ := scal_of vx vy s
    cases e
    exact .inl ⟨h1, h2⟩
  · split at e
    · rename_i d e' q1 q2
      split at e
      · rename_i s
        cases e
        exact .inr ⟨d, e', dp_of hr _ _ _ _ vx q1, dp_of hr _ _ _ _ vy q2, s.1, s.2, rfl⟩
      · cases e
    · cases e
theorem s2_eq : S2 g (rEqA g.K) dEq := by
  intro H μ h x y a b Q W hr vx vy bk
  unfold dEq at bk
  split at bk
  · rename_i k e
    rcases eq_of hr vx vy e with ⟨h1, h2⟩ | ⟨d, e, h1, h2, h3, h4, h5⟩
    · exact .inl ⟨h1, by rw [h2]; exact bk.val hr (.bl _)⟩
    · exact .inr (.inl ⟨d, e, h1, h2, h3, h4, by rw [h5]; exact bk.val hr (.bl _)⟩)
  · split at bk
    · rename_i k q
      unfold emp2 at q
      split at q
      · rename_i l m
        split at q
        · rename_i z
          cases q
          cases vx with
          | tup hs vs =>
            cases vy with
            | tup ht ws =>
              refine .inr (.inr (.inr ⟨_, _, _, _, rfl, rfl, hs.sq, ht.sq, ?_, ?_⟩))
              · rcases z with z | z
                · subst z; cases vs; exact .inl rfl
                · subst z; cases ws; exact .inr rfl
              · rw [vs.length, ws.length]; exact bk.val hr (.bl _)
        · cases q
      · cases q
    · split at bk
      · rename_i q
        unfold no2 at q
        split at q
        · rename_i i j
          obtain ⟨q1, q2⟩ := Bool.and_eq_true_iff.mp q
          cases vx with
          | ref hi =>
            cases vy with
            | ref hj =>
              obtain ⟨k1, e1, r1⟩ := hr.ob _ _ _ hi (of_decide_eq_true q1)
              obtain ⟨k2, e2, r2⟩ := hr.ob _ _ _ hj (of_decide_eq_true q2)
              cases r1
              cases r2
              exact .inr (.inr (.inl ⟨1, by decide, .inr ⟨_, _, [], [], rfl, rfl, e1, e2, rfl, fun p hp => by simp at hp⟩, bk.val hr (.bl true)⟩))
        · cases q
      · exact bk.elim
theorem s2_ne : S2 g (rNeA g.K) dNe := by
  intro H μ h x y a b Q W hr vx vy bk
  unfold dNe at bk
  split at bk
  · rename_i k e
    rcases eq_of hr vx vy e with ⟨h1, h2⟩ | ⟨d, e, h1, h2, h3, h4, h5⟩
    · exact .inl ⟨h1, by rw [h2]; exact bk.val hr (.bl _)⟩
    · exact .inr (.inl ⟨d, e, h1, h2, h3, h4, by rw [h5]; exact bk.val hr (.bl _)⟩)
  · split at bk
    · rename_i k q
      unfold emp2 at q
      split at q
      · rename_i l m
        split at q
        · rename_i z
          cases q
          cases vx with
          | tup hs vs =>
            cases vy with
            | tup ht ws =>
              refine .inr (.inr ⟨_, _, _, _, rfl, rfl, hs.sq, ht.sq, ?_, ?_⟩)
              · rcases z with z | z
                · subst z; cases vs; exact .inl rfl
                · subst z; cases ws; exact .inr rfl
              · rw [vs.length, ws.length]; exact bk.val hr (.bl _)
        · cases q
      · cases q
    · exact bk.elim
/-! ### is None -/
def dIsN : D → D → MH → R D
  | a, .non, h => .ok (.bl (decide (a = .non))) h
  | _, _, _ => .bad
def dNotN : D → D → MH → R D
  | a, .non, h => .ok (.bl (!decide (a = .non))) h
  | _, _, _ => .bad
/-! ### in -/
def flatD : D → Bool
  | .non => true | .bl _ => true | .int _ => true | .str _ => true | _ => false
def eqF : D → D → Bool
  | .non, .non => true
  | .bl a, .bl b => a == b
  | .bl a, .int b => (if a then 1 else 0) == b
  | .int a, .bl b => a == (if b then 1 else 0)
  | .int a, .int b => a == b
  | .str a, .str b => a == b
  | _, _ => false
def seqOf (h : MH) : D → Option (List D)
  | .tup l => some l
  | .ref i => getL h i
  | _ => none
/-- x in y: a sign in a text, a flat thing in a list or tuple of such, a nested one in a list -/
def inD (a b : D) (h : MH) : Option Bool := match a, b with
  | .str x, .str z => match x.cps.toList with
    | [c] => some (decide (c ∈ z.cps.toList))
    | _ => none
  | a, b => match seqOf h b with
    | some l => if flatD a = true ∧ l.all flatD = true then some (l.any fun y => eqF y a) else match pyOf 200 h a, pyOf 200 h b with
      | some d, some (.list es) => if shapedX d = true ∧ shapedX (.list es) = true then some (es.any fun z => PyData.eqv z d) else none
      | _, _ => none
    | none => none
def dIn (a b : D) (h : MH) : R D := match inD a b h with
  | some k => .ok (.bl k) h
  | none => .bad
def dNotIn (a b : D) (h : MH) : R D := match inD a b h with
  | some k => .ok (.bl (!k)) h
  | none => .bad
def rInA (K : PySem.W.Frag) : R2 := fun x y H Q => (∃ (c : Nat) (z : Str), x = .str ⟨#[c]⟩ ∧ y = .str z ∧ Q (.bl (decide (c ∈ z.cps.toList))) H) ∨ (rIn K false x y H Q ∨ rInX K x y H Q)
def rNotInA (K : PySem.W.Frag) : R2 := fun x y H Q => (∃ (c : Nat) (z : Str), x = .str ⟨#[c]⟩ ∧ y = .str z ∧ Q (.bl (!decide (c ∈ z.cps.toList))) H) ∨ (rIn K true x y H Q ∨ rNotInX K x y H Q)
theorem HR.seq {p : Addr} {b : D} {l : List D} (hr : HR g H μ h) (vb : VR g H μ (.ref p) b) (e : seqOf h b = some l) : ∃ xs, (SqL g.K H p xs ∨ SqT g.K H p xs) ∧ VRs g H μ xs l := by
  cases vb with
  | ref hi => obtain ⟨xs, h1, h2⟩ := hr.list hi e; exact ⟨xs, .inl h1, h2⟩
  | tup hs vs => cases e; exact ⟨_, .inr hs.sq, vs⟩
  | xo _ _ _ _ => cases e
/-! ### places -/
def dIx (a b : D) (h : MH) : R D := match b with
  | .int i => match a with
    | .str z => if z.length ≤ 1000000 then match atI z.cps.toList i with
      | some c => .ok (.str ⟨#[c]⟩) h
      | none => .bad else .bad
    | a => match seqOf h a with
      | some l => match atI l i with
        | some d => .ok d h
        | none => .bad
      | none => .bad
  | _ => .bad
theorem atI_of {xs : List V} {ds : List D} {i : Int} {d : D} (vs : VRs g H μ xs ds) (e : atI ds i = some d) : ∃ v, atI xs i = some v ∧ VR g H μ v d := by
  unfold atI at e ⊢
  rw [vs.length]
  cases q : ixN ds.length i with
  | none => rw [q] at e; cases e
  | some j =>
    rw [q] at e
    exact vs.get e
theorem s2_ix : S2 g (rIx g.K) dIx := by
  intro H μ h x y a b Q W hr vx vy bk
  cases vy with
  | int i =>
    cases vx with
    | str z =>
      simp only [dIx] at bk
      split at bk
      · rename_i hz
        split at bk
        · rename_i c e
          exact .inr (.inr ⟨z, i, c, rfl, rfl, sz6 hz, e, bk.val hr (.str _)⟩)
        · exact bk.elim
      · exact bk.elim
    | @tup p xs ds hs vs =>
      simp only [dIx, seqOf] at bk
      split at bk
      · rename_i d e
        obtain ⟨v, h1, h2⟩ := atI_of vs e
        exact .inr (.inl ⟨p, xs, i, v, rfl, rfl, hs.sq, h1, bk.val hr h2⟩)
      · exact bk.elim
    | @ref p j hj =>
      simp only [dIx, seqOf] at bk
      split at bk
      · rename_i l q
        obtain ⟨xs, hs, vs⟩ := hr.list hj q
        split at bk
        · rename_i d e
          obtain ⟨v, h1, h2⟩ := atI_of vs e
          exact .inl ⟨p, xs, i, v, rfl, rfl, hs, h1, bk.val hr h2⟩
        · exact bk.elim
      · exact bk.elim
    | _ => simp only [dIx, seqOf] at bk; exact bk.elim
  | _ => simp only [dIx] at bk; exact bk.elim
end
end Mi
namespace Mi
open PySem L2

/-! ### slices -/
def mNo : MP := fun _ h => .ok none h
def mSome (a : ME) : MP := fun ρ h => (a ρ h).bind fun x h1 => match x with
  | .int i => .ok (some i) h1
  | _ => .bad
def cutD (xs : List D) (lo hi : Option Int) : List D := (xs.drop (HT.sIx xs.length 0 lo)).take (HT.sIx xs.length xs.length hi - HT.sIx xs.length 0 lo)
def dSl (a : D) (lo hi : Option Int) (h : MH) : R D := match a with
  | .str z => if z.length ≤ 1000000 then .ok (.str (cutS z lo hi)) h else .bad
  | .tup l => .ok (.tup (cutD l lo hi)) h
  | .ref i => match getL h i with
    | some l => .ok (.ref h.length) (h ++ [.lst (cutD l lo hi)])
    | none => .bad
  | _ => .bad
def mSl (a : ME) (lo hi : MP) : ME := fun ρ h => (a ρ h).bind fun x h1 => (lo ρ h1).bind fun l h2 => (hi ρ h2).bind fun u h3 => dSl x l u h3
section
variable {X : Cx} {g : G} {W : WX} {a b e : Expr} {ma mb : ME} {pos p2 : Pos} {es : List Expr} {mr : MA} {lo hi : Option Expr} {ml mh : MP}
theorem sp_none : PO X none (tP g W mNo) := ⟨fun pins s σ H Q I ⟨ρ, h, μ, sr, hr, bk⟩ => (po_none (X := X)).run pins s σ H Q I (bk none H μ Mon.refl hr rfl)⟩
theorem sp_some (he : PE X e (tE g W ma)) : PO X (some e) (tP g W (mSome ma)) := ⟨fun pins s σ H Q I ⟨ρ, h, μ, sr, hr, bk⟩ => (po_some he).run pins s σ H Q I (step (rel := VR) (rel' := fun _ => opR) (ma := ma) (Q' := Q) sr hr bk fun x d h1 H1 μ1 m1 sr1 hr1 vx bk1 => by
  cases vx with
  | int i => exact ⟨i, rfl, bk1 _ H1 μ1 Mon.refl hr1 rfl⟩
  | _ => exact bk1.elim)⟩
theorem slR_or {r r' : V → Option Int → Option Int → Hp → VK → Prop} (h : SlR X r) (h' : SlR X r') : SlR X (fun x l u H Q => r x l u H Q ∨ r' x l u H Q) := by
  intro pins s σ H x v vl vu lo hi sl Q I rx hs pl pu q
  rcases q with q | q
  · exact h pins s σ H x v vl vu lo hi sl Q I rx hs pl pu q
  · exact h' pins s σ H x v vl vu lo hi sl Q I rx hs pl pu q
theorem cut_of {H : Hp} {μ : List Addr} {xs : List V} {ds : List D} (vs : VRs g H μ xs ds) (l u : Option Int) : VRs g H μ (cutV xs l u) (cutD ds l u) := by
  unfold cutV cutD
  rw [vs.length]
  exact (vs.drop _).take _
theorem cut_whole {ds : List D} {l u : Option Int} (h : HT.sIx ds.length 0 l = 0 ∧ HT.sIx ds.length ds.length u = ds.length) : cutD ds l u = ds := by
  unfold cutD
  rw [h.1, h.2]
  simp
theorem se_slice (he : PE X a (tE g W ma)) (hl : PO X lo (tP g W ml)) (hu : PO X hi (tP g W mh)) (hK : X.K = g.K := by rfl) : PE X (.Subscript a (.Slice lo hi none p2) pos) (tE g W (mSl ma ml mh)) :=
  pe_mono (pe_slice (slR_or sl_str (slR_or sl_tupF sl_list)) he hl hu) fun σ H Q ⟨ρ, h, μ, sr, hr, bk⟩ =>
    step (rel := VR) (rel' := VR) (ma := ma) (Q' := Q) sr hr bk fun x d h1 H1 μ1 m1 sr1 hr1 vx bk1 =>
      step (rel := fun _ => opR) (rel' := VR) (ma := ml) (Q' := Q) sr1 hr1 bk1 fun l l' h2 H2 μ2 m2 sr2 hr2 vl bk2 =>
        step (rel := fun _ => opR) (rel' := VR) (ma := mh) (Q' := Q) sr2 hr2 bk2 fun u u' h3 H3 μ3 m3 sr3 hr3 vu bk3 => by
          cases vl
          cases vu
          have vx3 := (vx.mono m2).mono m3
          rw [hK]
          cases vx3 with
          | str z =>
            simp only [dSl] at bk3
            split at bk3
            · rename_i hz
              exact .inl ⟨z, rfl, sz6 hz, bk3.val hr3 (.str _)⟩
            · exact bk3.elim
          | @tup p xs ds hs vs =>
            refine .inr (.inl ⟨p, xs, rfl, hs.sq, fun w => ?_, fun _ p ob hp ho => bk3.newT hr3 (cut_of vs _ _) hp ho⟩)
            rw [vs.length] at w
            rw [dSl, cut_whole w] at bk3
            exact bk3.val hr3 (.tup hs vs)
          | @ref p i hi =>
            simp only [dSl] at bk3
            split at bk3
            · rename_i l q
              obtain ⟨xs, hs, vs⟩ := hr3.list hi q
              exact .inr (.inr ⟨p, xs, rfl, hs, fun p hp => bk3.newL hr3 (cut_of vs _ _) hp⟩)
            · exact bk3.elim
          | _ => exact bk3.elim
end

/-! ### built-ins by values -/
def dLen : List D → MH → R D
  | [.str z], h => if z.length ≤ 1000000 then .ok (.int z.length) h else .bad
  | [.tup l], h => .ok (.int l.length) h
  | [.ref i], h => match getL h i with
    | some l => .ok (.int l.length) h
    | none => .bad
  | _, _ => .bad
def dAbs : List D → MH → R D
  | [.int i], h => .ok (.int (if i < 0 then -i else i)) h
  | _, _ => .bad
def dMax : List D → MH → R D
  | [.int i, .int j], h => .ok (.int (if j > i then j else i)) h
  | _, _ => .bad
def dMin : List D → MH → R D
  | [.int i, .int j], h => .ok (.int (if j < i then j else i)) h
  | _, _ => .bad
def dInt : List D → MH → R D
  | [.int i], h => .ok (.int i) h
  | [.bl b], h => .ok (.int (if b then 1 else 0)) h
  | _, _ => .bad
def dStr : List D → MH → R D
  | [.int i], h => if i.natAbs.log2 < 1920 then .ok (.str (toString i : String)) h else .bad
  | _, _ => .bad
def dList : List D → MH → R D
  | [a], h => match seqOf h a with
    | some l => .ok (.ref h.length) (h ++ [.lst l])
    | none => .bad
  | _, _ => .bad
def dTuple : List D → MH → R D
  | [a], h => match seqOf h a with
    | some l => .ok (.tup l) h
    | none => .bad
  | _, _ => .bad
def allBl : List D → Option (List Bool)
  | [] => some []
  | .bl b :: r => (allBl r).map (b :: ·)
  | _ => none
def dAny : List D → MH → R D
  | [.ref i], h => match (getL h i).bind allBl with
    | some bs => .ok (.bl (bs.any id)) h
    | none => .bad
  | _, _ => .bad
def dAll : List D → MH → R D
  | [.ref i], h => match (getL h i).bind allBl with
    | some bs => .ok (.bl (bs.all id)) h
    | none => .bad
  | _, _ => .bad
section
variable {g : G} {X : Cx}
theorem sn1 {r : List V → Hp → VK → Prop} {f : List D → MH → R D} (h1 : ∀ H μ h x a Q W, HR g H μ h → VR g H μ x a → Bk (VR g) g H μ (f [a] h) Q W → r [x] H Q) (h0 : ∀ h, f [] h = .bad) (h2 : ∀ a b l h, f (a :: b :: l) h = .bad) : SN g r f := by
  intro H μ h xs ds Q W hr vs bk
  cases vs with
  | nil => rw [h0] at bk; exact bk.elim
  | cons va t =>
    cases t with
    | nil => exact h1 H μ h _ _ Q W hr va bk
    | cons vb t => rw [h2] at bk; exact bk.elim
theorem sn_len : SN g (fun xs H Q => ∃ x n, xs = [x] ∧ LenV g.K x H n ∧ Q (.int n) H) dLen := sn1 (fun H μ h x a Q W hr va bk => by
  cases va with
  | str z =>
    simp only [dLen] at bk
    split at bk
    · rename_i hz; exact ⟨_, _, rfl, ⟨sz6 hz, rfl⟩, bk.val hr (.int _)⟩
    · exact bk.elim
  | @tup p xs ds hs vs => exact ⟨_, _, rfl, .inr ⟨xs, hs.sq, rfl⟩, by rw [vs.length]; exact bk.val hr (.int _)⟩
  | @ref p i hi =>
    simp only [dLen] at bk
    split at bk
    · rename_i l q
      obtain ⟨xs, hs, vs⟩ := hr.list hi q
      exact ⟨_, _, rfl, .inl ⟨xs, hs, rfl⟩, by rw [vs.length]; exact bk.val hr (.int _)⟩
    · exact bk.elim
  | _ => exact bk.elim) (fun _ => rfl) (fun a b l h => by simp [dLen])
theorem sn_abs : SN g (fun xs H Q => ∃ i, xs = [.int i] ∧ Q (.int (if i < 0 then -i else i)) H) dAbs := sn1 (fun H μ h x a Q W hr va bk => by
  cases va with
  | int i => exact ⟨i, rfl, bk.val hr (.int _)⟩
  | _ => exact bk.elim) (fun _ => rfl) (fun a b l h => by simp [dAbs])
theorem sn_list : SN g (fun xs H Q => ∃ p ys, xs = [.ref p] ∧ (SqL g.K H p ys ∨ SqT g.K H p ys) ∧ ∀ l, H l = none → Q (.ref l) (upd H l (.lst ys))) dList := sn1 (fun H μ h x a Q W hr va bk => by
  simp only [dList] at bk
  split at bk
  · rename_i l q
    have hy : ∃ p, x = .ref p := by cases va <;> first | exact ⟨_, rfl⟩ | cases q
    obtain ⟨p, rfl⟩ := hy
    obtain ⟨xs, h1, h2⟩ := hr.seq va q
    exact ⟨p, xs, rfl, h1, fun l hl => bk.newL hr h2 hl⟩
  · exact bk.elim) (fun _ => rfl) (fun a b l h => by simp [dList])
theorem sn2i {r : List V → Hp → VK → Prop} {f : List D → MH → R D} (h1 : ∀ H μ h i j Q W, HR g H μ h → Bk (VR g) g H μ (f [.int i, .int j] h) Q W → r [.int i, .int j] H Q) (h2 : ∀ ds h, (∀ i j, ds ≠ [.int i, .int j]) → f ds h = .bad) : SN g r f := by
  intro H μ h xs ds Q W hr vs bk
  have no : (∀ i j, ds ≠ [.int i, .int j]) → r xs H Q := fun z => by rw [h2 ds h z] at bk; exact bk.elim
  cases vs with
  | nil => exact no fun _ _ z => nomatch z
  | cons va t =>
    cases va with
    | int i =>
      cases t with
      | nil => exact no fun _ _ z => nomatch z
      | cons vb t =>
        cases vb with
        | int j =>
          cases t with
          | nil => exact h1 H μ h i j Q W hr bk
          | cons _ _ => exact no fun _ _ z => nomatch z
        | _ => exact no fun _ _ z => nomatch z
    | _ => exact no fun _ _ z => nomatch z
theorem two_bad {f : List D → MH → R D} (hf : ∀ (ds : List D) (h : MH), match ds with | [D.int _, D.int _] => True | _ => f ds h = .bad) : ∀ ds h, (∀ i j, ds ≠ [.int i, .int j]) → f ds h = .bad := fun ds h z => by
  have := hf ds h
  split at this
  · exact absurd rfl (z _ _)
  · exact this
theorem sn_max : SN g (fun xs H Q => ∃ i j, xs = [.int i, .int j] ∧ Q (.int (if j > i then j else i)) H) dMax := sn2i (fun H μ h i j Q W hr bk => ⟨i, j, rfl, bk.val hr (.int _)⟩) (two_bad fun ds h => by split <;> first | trivial | (unfold dMax; split <;> first | rfl | simp_all))
theorem sn_min : SN g (fun xs H Q => ∃ i j, xs = [.int i, .int j] ∧ Q (.int (if j < i then j else i)) H) dMin := sn2i (fun H μ h i j Q W hr bk => ⟨i, j, rfl, bk.val hr (.int _)⟩) (two_bad fun ds h => by split <;> first | trivial | (unfold dMin; split <;> first | rfl | simp_all))
end

/-! ### isinstance against built-in types -/
def tyName (h : MH) : D → Option String
  | .non => some "NoneType" | .bl _ => some "bool" | .int _ => some "int" | .str _ => some "str" | .tup _ => some "tuple"
  | .ref i => match h[i]? with
    | some (.lst _) => some "list"
    | some (.rol _) => some "list"
    | some (.dK _) => some "dict"
    | _ => none
  | .xo _ _ _ => none
def mIsi (T : String) (a : ME) : ME := fun ρ h => (a ρ h).bind fun x h1 => match (tyName h1 x).bind fun n => kitB n T with
  | some b => .ok (.bl b) h1
  | none => .bad
section
variable {X : Cx} {g : G} {W : WX} {a : Expr} {ma : ME} {pos : Pos}
theorem HR.ty {H : Hp} {μ : List Addr} {h : MH} {x : V} {d : D} {n : String} (hr : HR g H μ h) (vx : VR g H μ x d) (e : tyName h d = some n) : TyX g.K H x (.type n) := by
  cases vx with
  | xo _ _ _ _ => cases e
  | non => cases e; exact .base .non
  | bl b => cases e; exact .base (.bl b)
  | int i => cases e; exact .base (.int i)
  | str z => cases e; exact .base (.str z)
  | tup hs vs =>
    cases e
    rcases hs with ⟨o, _, hs⟩ | ⟨o, its, k, h1, h2, h3⟩
    · exact .fTuple hs
    · exact .kTuple h1 h2
  | ref hi =>
    simp only [tyName] at e
    split at e
    · rename_i l q
      cases e
      obtain ⟨xs, h1, _⟩ := hr.ob _ _ _ hi q
      exact .base (.lst h1)
    · rename_i l q
      cases e
      obtain ⟨xs, h1, _⟩ := hr.ob _ _ _ hi q
      rcases h1 with ⟨o, h1⟩ | ⟨o, its, k, h1, h2, h3⟩
      · exact .base (.frz h1)
      · exact .kList h1 h2
    · rename_i l q
      cases e
      obtain ⟨xs, h1, _⟩ := hr.ob _ _ _ hi q
      exact .base (.dK h1)
    · cases e
theorem se_isi {T : Str} {n : String} {p p2 : Pos} (ha : PE X a (tE g W ma)) (hm : X.mg "isinstance" = none) (hmT : X.mg T = none) (hvT : bootBuiltins T = some (.type n)) (hnT : T ≠ "__name__" := by decide) (hdT : (T == ("__debug__" : Str)) = false := by decide) (hg : Gl X "isinstance" := by rfl) (hgT : Gl X T := by rfl)
    (hK : X.K = g.K := by rfl)
    (s1 : starEach [a, .Name T p2] X.env = (false, eval a X.env) :: starEach [.Name T p2] X.env := by rfl) (s2 : starEach [.Name T p2] X.env = (false, eval (.Name T p2) X.env) :: starEach [] X.env := by rfl)
    (hpl : (backTo pos (starEach [.Name T p2] X.env)).any (·.1) = false := by rfl) : PE X (.Call (.Name "isinstance" p) [a, .Name T p2] [] pos) (tE g W (mIsi n ma)) :=
  pe_mono (pe_callB call_isi hg hm (by decide +kernel) (pa_cons ha (pa_cons (pe_bltn (v := .ty n) hgT hmT hvT rfl hnT hdT) pa_nil s2) s1) (by decide) (by decide) s1 hpl) fun σ H Q ⟨ρ, h, μ, sr, hr, bk⟩ =>
    step (rel := VR) (rel' := VR) (ma := ma) (Q' := Q) sr hr bk fun x d h1 H1 μ1 m1 sr1 hr1 vx bk1 => by
      split at bk1
      · rename_i b q
        obtain ⟨t, q1, q2⟩ := Option.bind_eq_some_iff.mp q
        refine ⟨x, .ty n, .type t, .type n, b, rfl, .ty n, ?_, kit_ty q2, bk1.val hr1 (.bl b)⟩
        rw [hK]
        exact hr1.ty vx q1
      · exact bk1.elim
end

/-! ### methods of built-in types -/
section
variable {X : Cx} {g : G} {W : WX} {o e : Expr} {mo : ME} {es : List Expr} {mr : MA} {name : Str} {apos cpos : Pos} {T id : String} {r : V → List V → Hp → VK → Prop} {f : D → List D → MH → R D} {ty : D → MH → Bool}
/-- how the type is seen -/
def STy (g : G) (T : String) (ty : D → MH → Bool) : Prop := ∀ (H : Hp) (μ : List Addr) (h : MH) (x : V) (a : D), HR g H μ h → VR g H μ x a → ty a h = true → tyV g.K T x H
theorem sty_list : STy g "list" isListD := fun H μ h x a hr va e => by
  cases va with
  | ref hi =>
    obtain ⟨l, q⟩ := Option.isSome_iff_exists.mp e
    obtain ⟨xs, hs, _⟩ := hr.list hi q
    exact .inl ⟨rfl, xs, hs⟩
  | _ => cases e
theorem se_bm (pa : PlainAttrs T) (slot : Slot T name id) (hty : typeOf (.builtin id) = pure (.type "method_descriptor")) (hm : MtR X id r) (st : STy g T ty) (hs : SM g r f) (ho : PE X o (tE g W mo)) (ha : PA X (e :: es) (tA g W mr)) (hK : X.K = g.K := by rfl)
    (hbase : attributeBase o name X.env (eval o X.env) = eval o X.env := by rfl)
    (hfew : ((backTo cpos (starEach (e :: es) X.env)).all (fun x => !x.1) && (backToKw cpos (keywordEach [] X.env)).all (fun x => x.1.isSome)
      && decide ((e :: es).length + ([] : List Keyword).length + (if ([] : List Keyword).isEmpty then 0 else 1) < 30)) = true := by rfl)
    (hline : (apos.endLine == cpos.line) = true := by rfl) (hse : starEach (e :: es) X.env = (false, eval e X.env) :: starEach es X.env := by rfl) (hplain : (backTo cpos (starEach es X.env)).any (·.1) = false := by rfl) :
    PE X (.Call (.Attribute o name apos) (e :: es) [] cpos) (tE g W (mMeth ty f mo mr)) :=
  pe_mono (pe_bm pa slot hty hm ho ha hbase hfew hline hse hplain) fun σ H Q ⟨ρ, h, μ, sr, hr, bk⟩ =>
    step (rel := VR) (rel' := VR) (ma := mo) (Q' := Q) sr hr bk fun x d h1 H1 μ1 m1 sr1 hr1 vx bk1 => by
      split at bk1
      · rename_i ht
        refine ⟨by rw [hK]; exact st H1 μ1 h1 x d hr1 vx ht, ?_⟩
        exact step (rel := VRs) (rel' := VR) (ma := mr) (Q' := Q) sr1 hr1 bk1 fun xs ds h2 H2 μ2 m2 sr2 hr2 vs bk2 => hs H2 μ2 h2 x xs d ds Q _ hr2 (vx.mono m2) vs bk2
      · exact bk1.elim
def dAppend : D → List D → MH → R D
  | .ref i, [d], h => match h[i]? with
    | some (.lst l) => if l.length < 1000000 then .ok .non (h.set i (.lst (l ++ [d]))) else .bad
    | _ => .bad
  | _, _, _ => .bad
theorem sm_append : SM g rAppend dAppend := by
  intro H μ h x xs a ds Q W hr va vs bk
  unfold dAppend at bk
  split at bk
  · rename_i i d
    cases va with
    | @ref p _ hi =>
      cases vs with
      | cons vd t =>
        cases t
        split at bk
        · rename_i l q
          split at bk
          · rename_i hl
            obtain ⟨ys, h1, h2⟩ := hr.lst hi q
            exact ⟨p, ys, _, rfl, rfl, h1, by rw [h2.length]; exact sz6' hl, bk.setL hr hi q h1 (h2.append (.one vd)) .non⟩
          · exact bk.elim
        · exact bk.elim
  · exact bk.elim
def dExtend : D → List D → MH → R D
  | .ref i, [.ref j], h => match h[i]?, h[j]? with
    | some (.lst l), some (.lst m) => if l.length + m.length ≤ 1000000 then .ok .non (h.set i (.lst (l ++ m))) else .bad
    | _, _ => .bad
  | _, _, _ => .bad
def dPop : D → List D → MH → R D
  | .ref i, [], h => match h[i]? with
    | some (.lst l) => match l[l.length - 1]? with
      | some d => .ok d (h.set i (.lst l.dropLast))
      | none => .bad
    | _ => .bad
  | _, _, _ => .bad
def allStr : List D → Option (List Str)
  | [] => some []
  | .str b :: r => (allStr r).map (b :: ·)
  | _ => none
def dJoin : D → List D → MH → R D
  | .str a, [b], h => match (seqOf h b).bind allStr with
    | some ys => if (ys.map (·.length)).sum + ys.length * a.length ≤ 1000000 then .ok (.str (Txt.join a ys)) h else .bad
    | none => .bad
  | _, _, _ => .bad
end
end Mi
namespace Mi
open PySem L2

/-! ### targets -/
abbrev MG := D → Slots → Option Slots
abbrev Rl := G → Hp → List Addr → V → D → Prop
/-- a pair that a walk has just laid: its items alone are known -/
def SV : Rl := fun g H μ v d => ∃ p xs ds, v = .ref p ∧ d = .tup ds ∧ SqT g.K H p xs ∧ VRs g H μ xs ds
def tGr (rl : Rl) (g : G) (m : MG) : TG := fun v σ H Q => ∃ ρ h μ d, SR g H μ σ ρ ∧ HR g H μ h ∧ rl g H μ v d ∧ match m d ρ with
  | some ρ' => ∀ σ', SR g H μ σ' ρ' → Q σ' H
  | none => False
abbrev tG (g : G) (m : MG) : TG := tGr VR g m
abbrev MGs := List D → Slots → Option Slots
def tGs (g : G) (m : MGs) : TGs := fun vs σ H Q => ∃ ρ h μ ds, SR g H μ σ ρ ∧ HR g H μ h ∧ VRs g H μ vs ds ∧ match m ds ρ with
  | some ρ' => ∀ σ', SR g H μ σ' ρ' → Q σ' H
  | none => False
def mgName (i : Nat) : MG := fun d ρ => some (ρ.set i (some d))
def mgNil : MGs := fun ds ρ => match ds with
  | [] => some ρ
  | _ => none
def mgCons (a : MG) (r : MGs) : MGs := fun ds ρ => match ds with
  | d :: ds => (a d ρ).bind fun ρ' => r ds ρ'
  | [] => none
def mgTup (r : MGs) : MG := fun d ρ => match d with
  | .tup ds => r ds ρ
  | _ => none
section
variable {X : Cx} {g : G} {pos : Pos}
theorem pg_mono {tg : Expr} {t t' : TG} (h : PG X tg t) (hm : ∀ v σ H Q, t' v σ H Q → t v σ H Q) : PG X tg t' := ⟨fun pins s σ H v u Q I r q => h.run pins s σ H v u Q I r (hm v σ H Q q)⟩
theorem pgs_mono {tg : List Expr} {t t' : TGs} (h : PGs X tg t) (hm : ∀ v σ H Q, t' v σ H Q → t v σ H Q) : PGs X tg t' := ⟨fun pins s σ H v u Q I r q => h.run pins s σ H v u Q I r (hm v σ H Q q)⟩
theorem sg_name {i : Nat} {x : Str} (hN : X.N.Nodup) (hi : X.N[i]? = some x := by rfl) (hx : Loc X.env.scope x := by first | exact Or.inl rfl | exact Or.inr rfl) (hf : X.fn x = true ∨ X.env.scope.names.lookup x = some .local := by first | exact .inl rfl | exact .inr rfl | assumption) : PG X (.Name x pos) (tG g (mgName i)) :=
  pg_mono (pg_name hN hi hx hf) fun v σ H Q ⟨ρ, h, μ, d, sr, hr, vd, q⟩ => q _ (sr.set i vd)
theorem sgs_nil : PGs X [] (tGs g mgNil) := pgs_mono pgs_nil fun vs σ H Q ⟨ρ, h, μ, ds, sr, hr, vd, q⟩ => by
  cases vd with
  | nil => exact ⟨rfl, q σ sr⟩
  | cons a b => exact q.elim
theorem sgs_cons {e : Expr} {es : List Expr} {t : MG} {u : MGs} (h1 : PG X e (tG g t)) (h2 : PGs X es (tGs g u))
    (hs : (assignEach (e :: es) X.env).map (·.2) = assign e X.env :: (assignEach es X.env).map (·.2) := by rfl) : PGs X (e :: es) (tGs g (mgCons t u)) :=
  pgs_mono (pgs_cons h1 h2 hs) fun vs σ H Q ⟨ρ, h, μ, ds, sr, hr, vd, q⟩ => by
    cases vd with
    | nil => exact q.elim
    | @cons v d vs ds a b =>
      refine ⟨v, vs, rfl, ρ, h, μ, d, sr, hr, a, ?_⟩
      simp only [mgCons] at q
      cases e : t d ρ with
      | none => rw [e] at q; exact q
      | some ρ' =>
        rw [e] at q
        exact fun σ' sr' => ⟨ρ', h, μ, ds, sr', hr, b, q⟩
/-- how many places a target has -/
def MGs.many (n : Nat) (m : MGs) : Prop := ∀ ds ρ ρ', m ds ρ = some ρ' → ds.length = n
theorem many_nil : MGs.many 0 mgNil := fun ds ρ ρ' e => by
  cases ds with
  | nil => rfl
  | cons _ _ => cases e
theorem many_cons {n : Nat} {a : MG} {r : MGs} (h : r.many n) : MGs.many (n + 1) (mgCons a r) := fun ds ρ ρ' e => by
  cases ds with
  | nil => cases e
  | cons d ds =>
    simp only [mgCons] at e
    obtain ⟨ρ1, _, e⟩ := Option.bind_eq_some_iff.mp e
    rw [List.length_cons, h ds _ _ e]
theorem sg_tup {es : List Expr} {k : Nat} {m : MGs} {n : Nat} (h : PGs X es (tGs g m)) (hm : m.many n) (hc : X.calm = true := by rfl) (hK : X.K = g.K := by rfl)
    (hn : (assignEach es X.env).length = n := by rfl) (hst : (assignEach es X.env).findIdx? (·.1) = none := by rfl) : PG X (.Tuple es k pos) (tG g (mgTup m)) :=
  pg_mono (pg_tup hc h hn hst) fun v σ H Q ⟨ρ, h, μ, d, sr, hr, vd, q⟩ => by
    cases vd with
    | @tup p xs ds hs vs =>
      simp only [mgTup] at q
      refine ⟨p, xs, rfl, by rw [hK]; exact hs.sq, ?_, ρ, h, μ, ds, sr, hr, vs, q⟩
      cases e : m ds ρ with
      | none => rw [e] at q; exact q.elim
      | some ρ' => rw [vs.length]; exact hm _ _ _ e
    | _ => exact q.elim
end

/-! ### what is walked -/
def JRr (rl : Rl) (g : G) (H0 : Hp) (μ0 : List Addr) (J : It) (a : List D × (MH → Bool)) : Prop := ∀ (i : Nat) (H : Hp) (μ : List Addr) (h : MH), Mon g H0 H μ0 μ → HR g H μ h → a.2 h = true →
  (i < a.1.length → J.go i H ∧ ∀ x H', J.yld i H x H' → ∃ d, a.1[i]? = some d ∧ Mon g H H' μ μ ∧ HR g H' μ h ∧ rl g H' μ x d) ∧ (a.1.length ≤ i → J.stop i H)
abbrev JR := JRr VR
abbrev MI := Slots → MH → R (List D × (MH → Bool))
abbrev tIr (rl : Rl) (g : G) (W : WX) (m : MI) : TI := tX (JRr rl) g W m
abbrev tI (g : G) (W : WX) (m : MI) : TI := tIr VR g W m
def yes : MH → Bool := fun _ => true
/-- the items of a list (as it stands), a tuple, a text -/
def itemsOf (a : D) (h : MH) : Option (List D × (MH → Bool)) := match a with
  | .tup l => some (l, yes)
  | .ref i => (getL h i).map fun l => (l, fun h' => decide (getL h' i = some l))
  | .str z => some (z.cps.toList.map fun c => .str ⟨#[c]⟩, yes)
  | _ => none
def mIter (a : ME) : MI := fun ρ h => (a ρ h).bind fun x h1 => match itemsOf x h1 with
  | some r => .ok r h1
  | none => .bad
def rangeD (i : Int) (n : Nat) : List D := (List.range n).map fun (k : Nat) => D.int (i + (k : Int))
def revRangeD (i : Int) (n : Nat) : List D := (List.range n).map fun (k : Nat) => D.int (i + (n : Int) - 1 - (k : Int))
def lim62 (i : Int) : Bool := decide (-(2 ^ 62) ≤ i) && decide (i < 2 ^ 62)
def dR1 (f : Int → Nat → List D) (x : D) (h : MH) : R (List D × (MH → Bool)) := match x with
  | .int j => if lim62 j = true then .ok (f 0 j.toNat, yes) h else .bad
  | _ => .bad
def dR2 (f : Int → Nat → List D) (x y : D) (h : MH) : R (List D × (MH → Bool)) := match x, y with
  | .int i, .int j => if lim62 i = true ∧ lim62 j = true then .ok (f i (j - i).toNat, yes) h else .bad
  | _, _ => .bad
def mRange1 (a : ME) : MI := fun ρ h => (a ρ h).bind fun x h1 => dR1 rangeD x h1
def mRange2 (a b : ME) : MI := fun ρ h => (a ρ h).bind fun x h1 => (b ρ h1).bind fun y h2 => dR2 rangeD x y h2
def mRev1 (a : ME) : MI := fun ρ h => (a ρ h).bind fun x h1 => dR1 revRangeD x h1
def mRev2 (a b : ME) : MI := fun ρ h => (a ρ h).bind fun x h1 => (b ρ h1).bind fun y h2 => dR2 revRangeD x y h2
section
variable {X : Cx} {g : G} {W : WX} {a b e : Expr} {ma mb : ME} {pos : Pos} {tg : Expr}
theorem pi_mono {t t' : TI} (h : PI X tg e t) (hm : ∀ σ H R, t' σ H R → t σ H R) : PI X tg e t' := ⟨fun pins s σ H R I q => h.run pins s σ H R I (hm σ H R q)⟩
theorem pi_or2 {t u : TI} (h : PI X tg e t) (h' : PI X tg e u) : PI X tg e (fun σ H R => t σ H R ∨ u σ H R) := ⟨fun pins s σ H R I q => by
  rcases q with q | q
  · exact h.run pins s σ H R I q
  · exact h'.run pins s σ H R I q⟩
theorem jr_list {H0 : Hp} {μ0 : List Addr} {p : Addr} {i : Nat} {l : List D} (hi : μ0[i]? = some p) : JR g H0 μ0 (Itl g.K p) (l, fun h' => decide (getL h' i = some l)) := fun k H μ h m hr gd => by
  have q : getL h i = some l := of_decide_eq_true gd
  obtain ⟨xs, hs, vs⟩ := hr.list (m.ix hi) q
  refine ⟨fun lt => ?_, fun le => ⟨xs, hs, by rw [vs.length]; exact le⟩⟩
  have hx : l[k]? = some l[k] := List.getElem?_eq_getElem lt
  obtain ⟨v, h1, h2⟩ := vs.get hx
  refine ⟨⟨xs, v, hs, h1⟩, fun x H' y => ?_⟩
  obtain ⟨e, y⟩ := y
  subst e
  have := y xs hs
  rw [h1] at this
  cases this
  exact ⟨_, hx, Mon.refl, hr, h2⟩
theorem jr_tup {H0 : Hp} {μ0 : List Addr} {p : Addr} {xs : List V} {l : List D} (hs : Tk g.K H0 p xs) (vs : VRs g H0 μ0 xs l) : JR g H0 μ0 (Itt g.K p) (l, yes) := fun k H μ h m hr _ => by
  have hs := (m.tups _ _ hs).sq
  have vs := vs.mono m
  refine ⟨fun lt => ?_, fun le => ⟨xs, hs, by rw [vs.length]; exact le⟩⟩
  have hx : l[k]? = some l[k] := List.getElem?_eq_getElem lt
  obtain ⟨v, h1, h2⟩ := vs.get hx
  refine ⟨⟨xs, v, hs, h1⟩, fun x H' y => ?_⟩
  obtain ⟨e, y⟩ := y
  subst e
  have := y xs hs
  rw [h1] at this
  cases this
  exact ⟨_, hx, Mon.refl, hr, h2⟩
theorem jr_str {H0 : Hp} {μ0 : List Addr} {z : Str} : JR g H0 μ0 (Its z) (z.cps.toList.map fun c => .str ⟨#[c]⟩, yes) := fun k H μ h m hr _ => by
  refine ⟨fun lt => ?_, fun le => ?_⟩
  · have lt' : k < z.cps.size := by simpa using lt
    refine ⟨lt', fun x H' y => ?_⟩
    obtain ⟨e, c, hc, ex⟩ := y
    subst e ex
    refine ⟨.str ⟨#[c]⟩, ?_, Mon.refl, hr, .str _⟩
    rw [List.getElem?_map, Array.getElem?_toList, hc]
    rfl
  · have : z.cps.size ≤ k := by simpa using le
    exact this
theorem jr_range {H0 : Hp} {μ0 : List Addr} {lo : Int} {n : Nat} : JR g H0 μ0 (Itr lo n) (rangeD lo n, yes) := fun k H μ h m hr _ => by
  refine ⟨fun lt => ?_, fun le => ?_⟩
  · have lt' : k < n := by simpa [rangeD] using lt
    refine ⟨lt', fun x H' y => ?_⟩
    obtain ⟨e, ex⟩ := y
    subst e ex
    refine ⟨.int (lo + (k : Int)), ?_, Mon.refl, hr, .int _⟩
    simp [rangeD, lt']
  · have : n ≤ k := by simpa [rangeD] using le
    exact this
theorem jr_rev {H0 : Hp} {μ0 : List Addr} {lo : Int} {n : Nat} : JR g H0 μ0 (Itc (lo + (n : Int) - 1) (-1) n) (revRangeD lo n, yes) := fun k H μ h m hr _ => by
  refine ⟨fun lt => ?_, fun le => ?_⟩
  · have lt' : k < n := by simpa [revRangeD] using lt
    refine ⟨lt', fun x H' y => ?_⟩
    obtain ⟨e, ex⟩ := y
    subst e ex
    refine ⟨.int (lo + (n : Int) - 1 - (k : Int)), ?_, Mon.refl, hr, ?_⟩
    · simp [revRangeD, lt']
    · have e : lo + (n : Int) - 1 + ((k : Nat) : Int) * (-1) = lo + (n : Int) - 1 - (k : Int) := by omega
      rw [e]
      exact .int _
  · have : n ≤ k := by simpa [revRangeD] using le
    exact this
theorem si_iter (he : PE X e (tE g W ma)) (hK : X.K = g.K := by rfl) : PI X tg e (tI g W (mIter ma)) :=
  pi_mono (pi_or2 (pi_list he) (pi_or2 (pi_tup he) (pi_str he))) fun σ H R ⟨ρ, h, μ, sr, hr, bk⟩ => by
    have use : ∀ (Q : VK), (∀ x d h1 H1 μ1, ma ρ h = .ok d h1 → Mon g H H1 μ μ1 → HR g H1 μ1 h1 → VR g H1 μ1 x d → Bk (JR g) g H1 μ1 (match itemsOf d h1 with | some r => Mi.R.ok r h1 | none => .bad) R (fun c d H' => W c d σ H') → Q x H1) → tE g W ma σ H Q := fun Q k =>
      ⟨ρ, h, μ, sr, hr, Bk.bind bk fun a h1 b H1 μ1 e m hr1 hv bk1 => k b a h1 H1 μ1 e m hr1 hv bk1⟩
    rw [hK]
    unfold mIter at bk
    cases e : ma ρ h with
    | bad => rw [e] at bk; exact bk.elim
    | exc x fs h' => exact .inl (use _ fun x d h1 H1 μ1 e' => by rw [e] at e'; cases e')
    | ok d h1 =>
      cases d with
      | tup l =>
        refine .inr (.inl (use _ fun x d h1 H1 μ1 e' m hr1 vx bk1 => ?_))
        rw [e] at e'
        cases e'
        cases vx with
        | @tup p xs ds hs vs => exact ⟨p, rfl, ⟨xs, hs.sq⟩, bk1 _ H1 μ1 Mon.refl hr1 (jr_tup hs vs)⟩
      | str z =>
        refine .inr (.inr (use _ fun x d h1 H1 μ1 e' m hr1 vx bk1 => ?_))
        rw [e] at e'
        cases e'
        cases vx
        exact ⟨z, rfl, bk1 _ H1 μ1 Mon.refl hr1 jr_str⟩
      | ref i =>
        refine .inl (use _ fun x d h1 H1 μ1 e' m hr1 vx bk1 => ?_)
        rw [e] at e'
        cases e'
        cases vx with
        | @ref p _ hi =>
          simp only [itemsOf] at bk1
          cases q : getL h1 i with
          | none => rw [q] at bk1; exact bk1.elim
          | some l =>
            rw [q] at bk1
            obtain ⟨xs, hs, vs⟩ := hr1.list hi q
            exact ⟨p, rfl, ⟨xs, hs⟩, bk1 _ H1 μ1 Mon.refl hr1 (jr_list hi)⟩
      | _ => rw [e] at bk; exact bk.elim
theorem lim_of {i : Int} (h : lim62 i = true) : -(2 ^ 62) ≤ i ∧ i < 2 ^ 62 := by
  unfold lim62 at h
  rw [Bool.and_eq_true] at h
  exact ⟨of_decide_eq_true h.1, of_decide_eq_true h.2⟩
theorem si_range1 {p : Pos} (hm : X.mg "range" = none) (ha : PE X a (tE g W ma)) (hg : Gl X "range" := by rfl) (hs : starEach [a] X.env = [(false, eval a X.env)] := by rfl) : PI X tg (.Call (.Name "range" p) [a] [] pos) (tI g W (mRange1 ma)) :=
  pi_mono (pi_range1 hg hm (pa_cons ha pa_nil hs) hs) fun σ H R ⟨ρ, h, μ, sr, hr, bk⟩ => step (rel := VR) (rel' := JR) (ma := ma) (Q' := R) sr hr bk fun x d h1 H1 μ1 m1 sr1 hr1 vx bk1 => by
    cases vx with
    | int j =>
      simp only [dR1] at bk1
      split at bk1
      · rename_i l
        exact ⟨j, rfl, (lim_of l).1, (lim_of l).2, bk1 _ H1 μ1 Mon.refl hr1 jr_range⟩
      · exact bk1.elim
    | _ => exact bk1.elim
theorem si_range2 {p : Pos} (hm : X.mg "range" = none) (ha : PE X a (tE g W ma)) (hb : PE X b (tE g W mb)) (hg : Gl X "range" := by rfl) (hs : starEach [a, b] X.env = [(false, eval a X.env), (false, eval b X.env)] := by rfl) (hs2 : starEach [b] X.env = [(false, eval b X.env)] := by rfl) : PI X tg (.Call (.Name "range" p) [a, b] [] pos) (tI g W (mRange2 ma mb)) :=
  pi_mono (pi_range2 hg hm (pa_cons ha (pa_cons hb pa_nil hs2) (by rw [hs, hs2])) hs hs2) fun σ H R ⟨ρ, h, μ, sr, hr, bk⟩ => step (rel := VR) (rel' := JR) (ma := ma) (Q' := R) sr hr bk fun x d h1 H1 μ1 m1 sr1 hr1 vx bk1 =>
    step (rel := VR) (rel' := JR) (ma := mb) (Q' := R) sr1 hr1 bk1 fun y d2 h2 H2 μ2 m2 sr2 hr2 vy bk2 => by
      cases vx with
      | int i =>
        cases vy with
        | int j =>
          simp only [dR2] at bk2
          split at bk2
          · rename_i l
            exact ⟨i, j, rfl, ⟨(lim_of l.1).1, (lim_of l.1).2, (lim_of l.2).1, (lim_of l.2).2⟩, bk2 _ H2 μ2 Mon.refl hr2 jr_range⟩
          · exact bk2.elim
        | _ => exact bk2.elim
      | _ => exact bk2.elim
theorem si_rev1 {p p2 pos2 : Pos} (hmr : X.mg "reversed" = none) (hm : X.mg "range" = none) (ha : PE X a (tE g W ma)) (hgr : Gl X "reversed" := by rfl) (hg : Gl X "range" := by rfl) (na : starEach [a] X.env = (false, eval a X.env) :: starEach [] X.env := by rfl)
    (hs : starEach [.Call (.Name "range" p2) [a] [] pos2] X.env = (false, eval (.Call (.Name "range" p2) [a] [] pos2) X.env) :: starEach [] X.env := by rfl) : PI X tg (.Call (.Name "reversed" p) [.Call (.Name "range" p2) [a] [] pos2] [] pos) (tI g W (mRev1 ma)) :=
  pi_mono (pi_revR hgr hmr (prg_1 hg hm ha na) hs) fun σ H R ⟨ρ, h, μ, sr, hr, bk⟩ => step (rel := VR) (rel' := JR) (ma := ma) (Q' := R) sr hr bk fun x d h1 H1 μ1 m1 sr1 hr1 vx bk1 => by
    cases vx with
    | int j =>
      simp only [dR1] at bk1
      split at bk1
      · rename_i l
        have e : (j - 0).toNat = j.toNat := by rw [Int.sub_zero]
        refine ⟨j, rfl, by decide, by decide, (lim_of l).1, (lim_of l).2, ?_⟩
        have q := jr_rev (g := g) (H0 := H1) (μ0 := μ1) (lo := 0) (n := j.toNat)
        rw [e]
        exact bk1 _ H1 μ1 Mon.refl hr1 q
      · exact bk1.elim
    | _ => exact bk1.elim
theorem si_rev2 {p p2 pos2 : Pos} (hmr : X.mg "reversed" = none) (hm : X.mg "range" = none) (ha : PE X a (tE g W ma)) (hb : PE X b (tE g W mb)) (hgr : Gl X "reversed" := by rfl) (hg : Gl X "range" := by rfl) (na : starEach [a, b] X.env = (false, eval a X.env) :: starEach [b] X.env := by rfl)
    (nb : starEach [b] X.env = (false, eval b X.env) :: starEach [] X.env := by rfl) (hp : (backTo pos2 (starEach [b] X.env)).any (·.1) = false := by rfl)
    (hs : starEach [.Call (.Name "range" p2) [a, b] [] pos2] X.env = (false, eval (.Call (.Name "range" p2) [a, b] [] pos2) X.env) :: starEach [] X.env := by rfl) : PI X tg (.Call (.Name "reversed" p) [.Call (.Name "range" p2) [a, b] [] pos2] [] pos) (tI g W (mRev2 ma mb)) :=
  pi_mono (pi_revR hgr hmr (prg_2 hg hm ha hb na nb hp) hs) fun σ H R ⟨ρ, h, μ, sr, hr, bk⟩ => step (rel := VR) (rel' := JR) (ma := ma) (Q' := R) sr hr bk fun x d h1 H1 μ1 m1 sr1 hr1 vx bk1 =>
    step (rel := VR) (rel' := JR) (ma := mb) (Q' := R) sr1 hr1 bk1 fun y d2 h2 H2 μ2 m2 sr2 hr2 vy bk2 => by
      cases vx with
      | int i =>
        cases vy with
        | int j =>
          simp only [dR2] at bk2
          split at bk2
          · rename_i l
            exact ⟨i, j, rfl, rfl, (lim_of l.1).1, (lim_of l.1).2, (lim_of l.2).1, (lim_of l.2).2, bk2 _ H2 μ2 Mon.refl hr2 jr_rev⟩
          · exact bk2.elim
        | _ => exact bk2.elim
      | _ => exact bk2.elim
end

/-! ### for -/
def forGo (gd : MH → Bool) (tg : MG) (body : MS) : List D → Slots → MH → Out
  | [], ρ, h => if gd h = true then .nx ρ h else .bad
  | d :: ds, ρ, h => if gd h = true then match tg d ρ with
    | some ρ1 => match body ρ1 h with
      | .nx ρ' h' => forGo gd tg body ds ρ' h'
      | .ct ρ' h' => forGo gd tg body ds ρ' h'
      | .bk ρ' h' => .nx ρ' h'
      | .rt d h' => .rt d h'
      | .exc x fs ρ' h' => .exc x fs ρ' h'
      | .bad => .bad
    | none => .bad else .bad
def mFor (it : MI) (tg : MG) (body : MS) : MS := fun ρ h => (it ρ h).out ρ fun a h1 => forGo a.2 tg body a.1 ρ h1
def whGo (c : MT) (body : MS) : Nat → Slots → MH → Out
  | 0, _, _ => .bad
  | n + 1, ρ, h => (c ρ h).out ρ fun b h1 => if b = true then match body ρ h1 with
    | .nx ρ' h' => whGo c body n ρ' h'
    | .ct ρ' h' => whGo c body n ρ' h'
    | .bk ρ' h' => .nx ρ' h'
    | .rt d h' => .rt d h'
    | .exc x fs ρ' h' => .exc x fs ρ' h'
    | .bad => .bad else .nx ρ h1
def mWhile (n : Nat) (c : MT) (body : MS) : MS := fun ρ h => whGo c body n ρ h
section
variable {X : Cx} {g : G} {W : WX} {pos : Pos} {tg iter : Expr} {mi : MI} {mt : MG} {mb : MS} {body : List Stmt} {rl : Rl}
theorem sx_for (hp : PassesOwn (model X.prog X.w) X.A X.env X.xe) (hi : PI X tg iter (tIr rl g W mi)) (hg : PG X tg (tGr rl g mt)) (hb : PSs X body (tS g W mb)) (hc : X.calm = true := by rfl) (hs : ∀ x, foldedSetIterable iter X.env x = pure x := by intro _; rfl) :
    PS X (.For tg iter body [] pos) (tS g W (mFor mi mt mb)) :=
  ps_mono (ps_for hp hc hi hg hb hs) fun E σ H ⟨ρ, h, μ, sr, hr, bk⟩ => stepS (rel := JRr rl) (ma := mi) (E := E) sr hr bk fun J a h1 H1 μ1 m1 sr1 hr1 jr bk1 => by
    refine ⟨fun i m σ' H' => m = a.1.length - i ∧ i ≤ a.1.length ∧ ∃ ρ' h' μ', Mon g H1 H' μ1 μ' ∧ SR g H' μ' σ' ρ' ∧ HR g H' μ' h' ∧ BkS g H' μ' (forGo a.2 mt mb (a.1.drop i) ρ' h') E W, ⟨a.1.length, by simp, Nat.zero_le _, ρ, h1, μ1, Mon.refl, sr1, hr1, by simpa using bk1⟩, ?_⟩
    rintro i m σ' H' ⟨rfl, hi, ρ', h', μ', m', sr', hr', bk'⟩
    by_cases hlt : i < a.1.length
    · have ed : a.1.drop i = a.1[i] :: a.1.drop (i + 1) := List.drop_eq_getElem_cons hlt
      rw [ed] at bk'
      unfold forGo at bk'
      split at bk'
      · rename_i gd
        obtain ⟨jg, _⟩ := jr i H' μ' h' m' hr' gd
        obtain ⟨go, yl⟩ := jg hlt
        refine .inr ⟨go, fun σ2 H2 => i + 1 ≤ a.1.length ∧ ∃ ρ2 h2 μ2, Mon g H1 H2 μ1 μ2 ∧ SR g H2 μ2 σ2 ρ2 ∧ HR g H2 μ2 h2 ∧ BkS g H2 μ2 (forGo a.2 mt mb (a.1.drop (i + 1)) ρ2 h2) E W, fun σ2 H2 q => ⟨a.1.length - (i + 1), by omega, rfl, q.1, q.2⟩, fun x Hy y => ?_⟩
        obtain ⟨d, hd, my, hry, vy⟩ := yl x Hy y
        rw [List.getElem?_eq_getElem hlt] at hd
        cases hd
        refine ⟨ρ', h', μ', _, sr'.mono my, hry, vy, ?_⟩
        split at bk'
        · rename_i ρ1 e1
          intro σ3 sr3
          refine ⟨ρ1, h', μ', sr3, hry, ?_⟩
          have mm := m'.trans my
          cases e2 : mb ρ1 h' with
          | nx ρ4 h4 => rw [e2] at bk'; exact fun σ4 H4 μ4 m4 sr4 hr4 => ⟨hlt, ρ4, h4, μ4, mm.trans m4, sr4, hr4, BkS.mono (my.trans m4) bk'⟩
          | ct ρ4 h4 => rw [e2] at bk'; exact fun σ4 H4 μ4 m4 sr4 hr4 => ⟨hlt, ρ4, h4, μ4, mm.trans m4, sr4, hr4, BkS.mono (my.trans m4) bk'⟩
          | bk ρ4 h4 => rw [e2] at bk'; exact BkS.mono my bk'
          | rt d4 h4 => rw [e2] at bk'; exact BkS.mono my bk'
          | exc x4 fs4 ρ4 h4 => rw [e2] at bk'; exact BkS.mono my bk'
          | bad => rw [e2] at bk'; exact bk'
        · exact bk'.elim
      · exact bk'.elim
    · have e : i = a.1.length := by omega
      subst e
      rw [List.drop_length] at bk'
      unfold forGo at bk'
      split at bk'
      · rename_i gd
        exact .inl ⟨(jr _ H' μ' h' m' hr' gd).2 (Nat.le_refl _), bk' σ' H' μ' Mon.refl sr' hr'⟩
      · exact bk'.elim
end

/-! ### a def by its body -/
def startD (n N : Nat) (ds : List D) : Slots := ds.map some ++ List.replicate (N - n) none
def mFun (n N : Nat) (body : MS) : List D → MH → R D := fun ds h => if ds.length = n then match body (startD n N ds) h with
  | .nx _ h' => .ok .non h'
  | .rt d h' => .ok d h'
  | .exc x fs _ h' => .exc x fs h'
  | _ => .bad else .bad
theorem spM_len {g : G} {n N : Nat} {body : MS} {vs : List V} {H : Hp} {Q : VK} {E : XK} (h : spM g (mFun n N body) vs H Q E) : vs.length = n := by
  obtain ⟨ds, hh, μ, v, hr, bk⟩ := h
  unfold mFun at bk
  split at bk
  · rename_i e; rw [v.length]; exact e
  · exact bk.elim
theorem spM_run {g : G} {ps N : List Str} {body : MS} {vs : List V} {H : Hp} {Q : VK} {E : XK} (h : spM g (mFun ps.length N.length body) vs H Q E) : tS g (fun c d _ H' => E c d H') body { nx := fun _ H' => Q .non H', rt := Q } (L2.start N vs) H := by
  have hl := spM_len h
  obtain ⟨ds, hh, μ, v, hr, bk⟩ := h
  unfold mFun at bk
  split at bk
  · rename_i e
    refine ⟨startD ps.length N.length ds, hh, μ, ?_, hr, ?_⟩
    · unfold L2.start startD
      rw [hl]
      exact SR.start _ v
    · cases q : body (startD ps.length N.length ds) hh with
      | nx ρ h' => rw [q] at bk; exact fun σ' H' μ' m sr hr' => bk .non H' μ' m hr' .non
      | rt d h' => rw [q] at bk; exact fun v H' μ' m hr' vd => bk v H' μ' m hr' vd
      | bk ρ h' => rw [q] at bk; exact bk.elim
      | ct ρ h' => rw [q] at bk; exact bk.elim
      | exc x fs ρ h' => rw [q] at bk; exact fun cls d σ' H' μ' m sr hr' xr => bk cls d H' μ' m hr' xr
      | bad => rw [q] at bk; exact bk
  · exact bk.elim
section
variable {P : Program} {w : World} {K : PySem.W.Frag} {mg : Str → Option Value} {base : Heap} {g : G}
theorem fn_mk {x qual : Str} {st : Stmt} {f : Addr} {fd : FuncData} {N ps : List Str} {k : Nat} {body : MS} (F : Fun K x qual st f fd) (S : FnScope N ps (defScope st))
    (hb : ∀ (cdv : Value) (A : Around) (outer : List Env) (s : Shared) (H : Hp) (E : XK), Room k (A.deeper (PyProof.Rows.envOfC qual (defScope st) s.heap.objs.size f cdv)) →
      PSs (cxOf (L2.CX P w) P w K mg base N qual (defScope st) f cdv A outer s H E) (defBody st) (tS g (fun c d _ H' => E c d H') body)) :
    FnOk P w K mg base (L2.CX P w) (k + 1) f fd ps (spM g (mFun ps.length N.length body)) :=
  F.okX S (fun vs H Q E h => spM_len h) fun cdv A outer s H vs Q E hr h => ⟨_, hb cdv A outer s H E hr, spM_run h⟩
theorem fn_none {f : Addr} {fd : FuncData} {ps : List Str} {k : Nat} {F : List D → MH → R D} (hF : ∀ ds h, F ds h = .bad) : FnOk P w K mg base (L2.CX P w) k f fd ps (spM g F) := by
  have no : ∀ vs H Q E, ¬ spM g F vs H Q E := fun vs H Q E ⟨ds, h, μ, _, _, bk⟩ => by rw [hF] at bk; exact bk
  exact ⟨fun vs H Q E h => absurd h (no vs H Q E), fun A outer s H args us vs Q E _ _ _ _ h => absurd h (no vs H Q E)⟩
end
end Mi
namespace Mi
open PySem L2

/-! ### list comprehensions -/
abbrev W0 : WX := fun _ _ _ _ => False
def mYes : MT := fun _ h => .ok true h
def wipeD (ρ : Slots) : List Nat → Slots
  | [] => ρ
  | v :: vs => (wipeD ρ vs).set v none
theorem SR.wipe {g : G} {H : Hp} {μ : List Addr} {σ : St} {ρ : Slots} (h : SR g H μ σ ρ) : ∀ vs : List Nat, SR g H μ (L2.wipe σ vs) (wipeD ρ vs)
  | [] => h
  | v :: vs => (SR.wipe h vs).unset v none
def lcGo (gd : MH → Bool) (tg : MG) (tt : MT) (te : ME) (c : Nat) (ρ : Slots) : List D → MH → R D
  | [], h => if gd h = true then .ok (.ref c) h else .bad
  | d :: ds, h => if gd h = true then match tg d ρ with
    | some ρ1 => match tt ρ1 h with
      | .ok false h1 => lcGo gd tg tt te c ρ ds h1
      | .ok true h1 => match te ρ1 h1 with
        | .ok y h2 => match h2[c]? with
          | some (.lst acc) => if acc.length < 1000000 then lcGo gd tg tt te c ρ ds (h2.set c (.lst (acc ++ [y]))) else .bad
          | _ => .bad
        | _ => .bad
      | _ => .bad
    | none => .bad else .bad
def mLc (it : MI) (tg : MG) (tt : MT) (te : ME) (vs : List Nat) : ME := fun ρ h => (it ρ h).bind fun a h1 => lcGo a.2 tg tt te h1.length (wipeD ρ vs) a.1 (h1 ++ [.lst []])
/-- a target by its very slots -/
structure TgOk (rl : Rl) (g : G) (t : TG) (m : MG) (vs : List Nat) : Prop where
  run : ∀ (v : V) (d : D) (σ : St) (ρ : Slots) (H : Hp) (μ : List Addr) (h : MH) (Q : St → Hp → Prop), HR g H μ h → rl g H μ v d → SR g H μ (L2.wipe σ vs) ρ →
    match m d ρ with
    | some ρ' => (∀ σ', SR g H μ σ' ρ' → L2.wipe σ' vs = L2.wipe σ vs → Q σ' H) → t v (L2.wipe σ vs) H Q
    | none => True
theorem tg_name {g : G} (j : Nat) : TgOk VR g (gName j) (mgName j) [j] := ⟨fun v d σ ρ H μ h Q hr vd sr => by
  intro k
  refine k _ (sr.set j vd) ?_
  show ((σ.set j none).set j (some v)).set j none = σ.set j none
  rw [List.set_set, List.set_set]⟩
section
variable {g : G} {W : WX} {mi : MI} {mt : MG} {tt : MT} {te : ME} {t : TG} {vs : List Nat} {rl : Rl}
theorem lc_of (ht : TgOk rl g t mt vs) {σ : St} {H : Hp} {Q : VK} (q : tE g W (mLc mi mt tt te vs) σ H Q) : tLc (tIr rl g W mi) t (tT g W0 tt) (tE g W0 te) vs σ H Q := by
  obtain ⟨ρ, h, μ, sr, hr, bk⟩ := q
  refine step (rel := JRr rl) (rel' := VR) (ma := mi) (Q' := Q) sr hr bk fun J a h1 H1 μ1 m1 sr1 hr1 jr bk1 Dd hD => ?_
  have mD : Mon g H1 (upd H1 Dd (.lst [])) μ1 (μ1 ++ [Dd]) := mon_push hD
  refine ⟨fun i m H' => m = a.1.length - i ∧ i ≤ a.1.length ∧ ∃ h' μ', Mon g H1 H' μ1 μ' ∧ μ'[h1.length]? = some Dd ∧ HR g H' μ' h' ∧ Bk (VR g) g H' μ' (lcGo a.2 mt tt te h1.length (wipeD ρ vs) (a.1.drop i) h') Q (fun c d H' => W c d σ H'),
    ⟨a.1.length, by simp, Nat.zero_le _, h1 ++ [.lst []], μ1 ++ [Dd], mD, ix_push hr1.len, hr1.push (u := .lst []) hD ⟨[], upd_same, .nil⟩, Bk.mono mD (by simpa using bk1)⟩, ?_⟩
  rintro i m H' ⟨rfl, hi, h', μ', m', hc, hr', bk'⟩
  by_cases hlt : i < a.1.length
  · have ed : a.1.drop i = a.1[i] :: a.1.drop (i + 1) := List.drop_eq_getElem_cons hlt
    rw [ed] at bk'
    unfold lcGo at bk'
    split at bk'
    · rename_i gd
      obtain ⟨jg, _⟩ := jr i H' μ' h' m' hr' gd
      obtain ⟨go, yl⟩ := jg hlt
      refine .inr ⟨go, fun H2 => i + 1 ≤ a.1.length ∧ ∃ h2 μ2, Mon g H1 H2 μ1 μ2 ∧ μ2[h1.length]? = some Dd ∧ HR g H2 μ2 h2 ∧ Bk (VR g) g H2 μ2 (lcGo a.2 mt tt te h1.length (wipeD ρ vs) (a.1.drop (i + 1)) h2) Q (fun c d H' => W c d σ H'), fun H2 q => ⟨a.1.length - (i + 1), by omega, rfl, q.1, q.2⟩, fun x Hy y => ?_⟩
      obtain ⟨d, hd, my, hry, vy⟩ := yl x Hy y
      rw [List.getElem?_eq_getElem hlt] at hd
      cases hd
      have mm := m'.trans my
      have srw : SR g Hy μ' (L2.wipe σ vs) (wipeD ρ vs) := (sr1.mono mm).wipe vs
      have tr := ht.run x a.1[i] σ (wipeD ρ vs) Hy μ' h' (fun σ2 H2 => L2.wipe σ2 vs = L2.wipe σ vs ∧ tT g W0 tt σ2 H2 fun b H3 => if b = true then tE g W0 te σ2 H3 fun y H4 => ∃ acc, H4 Dd = some (.lst acc) ∧ acc.length < sizeLine ∧ (i + 1 ≤ a.1.length ∧ ∃ h2 μ2, Mon g H1 (upd H4 Dd (.lst (acc ++ [y]))) μ1 μ2 ∧ μ2[h1.length]? = some Dd ∧ HR g (upd H4 Dd (.lst (acc ++ [y]))) μ2 h2 ∧ Bk (VR g) g (upd H4 Dd (.lst (acc ++ [y]))) μ2 (lcGo a.2 mt tt te h1.length (wipeD ρ vs) (a.1.drop (i + 1)) h2) Q (fun c d H' => W c d σ H')) else (i + 1 ≤ a.1.length ∧ ∃ h2 μ2, Mon g H1 H3 μ1 μ2 ∧ μ2[h1.length]? = some Dd ∧ HR g H3 μ2 h2 ∧ Bk (VR g) g H3 μ2 (lcGo a.2 mt tt te h1.length (wipeD ρ vs) (a.1.drop (i + 1)) h2) Q (fun c d H' => W c d σ H'))) hry vy srw
      split at bk'
      · rename_i ρ1 e1
        rw [e1] at tr
        refine tr fun σ2 sr2 ew => ⟨ew, ρ1, h', μ', sr2, hry, ?_⟩
        cases e2 : tt ρ1 h' with
        | bad => rw [e2] at bk'; exact bk'.elim
        | exc x fs h3 => rw [e2] at bk'; exact bk'.elim
        | ok b h3 =>
          rw [e2] at bk'
          intro b' H3 μ3 m3 hr3 eb
          cases eb
          cases b with
          | false => exact ⟨hlt, h3, μ3, mm.trans m3, m3.ix hc, hr3, Bk.mono (my.trans m3) bk'⟩
          | true =>
            refine ⟨ρ1, h3, μ3, sr2.mono m3, hr3, ?_⟩
            simp only at bk'
            cases e3 : te ρ1 h3 with
            | bad => rw [e3] at bk'; exact bk'.elim
            | exc x fs h4 => rw [e3] at bk'; exact bk'.elim
            | ok y h4 =>
              rw [e3] at bk'
              intro yv H4 μ4 m4 hr4 vyv
              simp only at bk'
              split at bk'
              · rename_i acc ea
                split at bk'
                · rename_i hl
                  have hc4 : μ4[h1.length]? = some Dd := m4.ix (m3.ix hc)
                  obtain ⟨xs, hx, vx⟩ := hr4.lst hc4 ea
                  have m5 : Mon g H4 (upd H4 Dd (.lst (xs ++ [yv]))) μ4 μ4 := (Saf.lst hx).mon
                  exact ⟨xs, hx, by rw [vx.length]; exact sz6' hl, hlt, _, μ4, ((mm.trans m3).trans m4).trans m5, hc4,
                    hr4.write (u := .lst (acc ++ [y])) hc4 ea rfl (Saf.lst hx) rfl ⟨_, upd_same, (vx.append (.one vyv)).mono m5⟩, Bk.mono (((my.trans m3).trans m4).trans m5) bk'⟩
                · exact bk'.elim
              · exact bk'.elim
      · exact bk'.elim
    · exact bk'.elim
  · have e : i = a.1.length := by omega
    subst e
    rw [List.drop_length] at bk'
    unfold lcGo at bk'
    split at bk'
    · rename_i gd
      exact .inl ⟨(jr _ H' μ' h' m' hr' gd).2 (Nat.le_refl _), bk' _ H' μ' Mon.refl hr' (.ref hc)⟩
    · exact bk'.elim
end
section
variable {X : Cx} {g : G} {W : WX} {elt tg iter : Expr} {ifs : List Expr} {scope : Scope} {own : List (Str × Nat)} {pos spos py : Pos} {mi : MI} {mt : MG} {tt : MT} {te : ME} {t : TG} {rl : Rl}
theorem st_one {Y : Cx} {c : Expr} (h : PT Y c (tT g W0 tt)) : PTs Y [c] (tT g W0 tt) := pts_one h
theorem st_nil {Y : Cx} : PTs Y [] (tT g W0 mYes) := ⟨fun pins s σ H Q I ⟨ρ, h, μ, sr, hr, bk⟩ => (pts_nil (X := Y)).run pins s σ H Q I (bk true H μ Mon.refl hr rfl)⟩
theorem se_lc (hN : X.N.Nodup) (hi : PI X tg iter (tIr rl g W mi)) (ok : BlkOk X.N X.env.scope scope own) (ht : TgOk rl g t mt (own.map (·.2)))
    (hg : ∀ (s : Shared) (H : Hp) (C : Addr) (cl : List (Str × Addr)) (fp : List Addr), PG (X.blk s H scope (PySem.compEnvC scope cl C X.env) fp) tg t) (hts : ∀ (s : Shared) (H : Hp) (C : Addr) (cl : List (Str × Addr)) (fp : List Addr), PTs (X.blk s H scope (PySem.compEnvC scope cl C X.env) fp) ifs (tT g W0 tt))
    (he : ∀ (s : Shared) (H : Hp) (C : Addr) (cl : List (Str × Addr)) (fp : List Addr), PE (X.blk s H scope (PySem.compEnvC scope cl C X.env) fp) elt (tE g W0 te)) (hc : X.calm = true := by rfl) (hs : ∀ x, foldedSetIterable iter X.env x = pure x := by intro _; rfl) :
    PE X (.ListComp elt [⟨tg, iter, ifs, 0⟩] scope pos) (tE g W (mLc mi mt tt te (own.map (·.2)))) :=
  pe_mono (pe_lc hc hN hi ok hg hts he hs) fun σ H Q q => lc_of ht q
theorem sx_setLc {i : Nat} {y : Str} (hN : X.N.Nodup) (hi : PI X tg iter (tIr rl g W mi)) (ok : BlkOk X.N X.env.scope scope own) (ht : TgOk rl g t mt (own.map (·.2)))
    (hg : ∀ (s : Shared) (H : Hp) (C : Addr) (cl : List (Str × Addr)) (fp : List Addr), PG (X.blk s H scope (PySem.compEnvC scope cl C X.env) fp) tg t) (hts : ∀ (s : Shared) (H : Hp) (C : Addr) (cl : List (Str × Addr)) (fp : List Addr), PTs (X.blk s H scope (PySem.compEnvC scope cl C X.env) fp) ifs (tT g W0 tt))
    (he : ∀ (s : Shared) (H : Hp) (C : Addr) (cl : List (Str × Addr)) (fp : List Addr), PE (X.blk s H scope (PySem.compEnvC scope cl C X.env) fp) elt (tE g W0 te))
    (hy : X.N[i]? = some y := by rfl) (hyl : X.env.scope.names.lookup y = some .local := by rfl) (hsw : swapsWith (.ListComp elt [⟨tg, iter, ifs, 0⟩] scope pos) (some (.Name y py)) spos.line X.env = pure true := by exact sw_true rfl rfl rfl (by decide +kernel))
    (hc : X.calm = true := by rfl) (hs : ∀ x, foldedSetIterable iter X.env x = pure x := by intro _; rfl) :
    PS X (.Assign [.Name y py] (.ListComp elt [⟨tg, iter, ifs, 0⟩] scope pos) spos) (tS g W (mAsg i (mLc mi mt tt te (own.map (·.2))))) :=
  ps_mono (ps_setLc hc hN hy hyl hsw hi ok hg hts he hs) fun E σ H ⟨ρ, h, μ, sr, hr, bk⟩ => lc_of ht (W := W) (stepS (W := W) (rel := VR) (ma := mLc mi mt tt te (own.map (fun p : Str × Nat => p.2))) (f := fun d h1 => .nx (ρ.set i (some d)) h1) (E := E) sr hr bk fun v d h1 H1 μ1 m1 sr1 hr1 vx bk1 => bk1 _ H1 μ1 Mon.refl (sr1.set i vx) hr1)
end

/-! ### stores to places, to several names -/
def dSet (x y d : D) (h : MH) : R Unit := match x, y with
  | .ref i, .int k => match h[i]? with
    | some (.lst l) => match ixN l.length k with
      | some j => .ok () (h.set i (.lst (l.set j d)))
      | none => .bad
    | _ => .bad
  | _, _ => .bad
def mSetIx (o i e : ME) : MS := fun ρ h => (e ρ h).out ρ fun d h1 => (o ρ h1).out ρ fun x h2 => (i ρ h2).out ρ fun y h3 => (dSet x y d h3).out ρ fun _ h4 => .nx ρ h4
def mAsgT (m : MG) (e : ME) : MS := fun ρ h => (e ρ h).out ρ fun d h1 => match m d ρ with
  | some ρ' => .nx ρ' h1
  | none => .bad
section
variable {X : Cx} {g : G} {W : WX} {o i e tg : Expr} {mo mi me : ME} {pos p2 : Pos} {mt : MG}
theorem sx_setIx (ho : PE X o (tE g W mo)) (hi : PE X i (tE g W mi)) (he : PE X e (tE g W me))
    (ha : ∀ v, assign (.Subscript o i p2) X.env v = (do
      let ov ← holding [v] (eval o X.env)
      let iv ← holding [v, ov] (eval i X.env)
      standAt p2
      holding [v, ov, iv] (setItem ov iv v)
      release [v, ov, iv] []) := by intro _; rfl)
    (hs : swapsWithSole [.Subscript o i p2] e pos.line X.env = pure false := by rfl) (hw : swappedStores [.Subscript o i p2] e X.env = pure none := by rfl)
    (h1 : (assignEach [.Subscript o i p2] X.env).map (·.2) = [assign (.Subscript o i p2) X.env] := by rfl) : PS X (.Assign [.Subscript o i p2] e pos) (tS g W (mSetIx mo mi me)) :=
  ps_mono (ps_asg he (pg_sub ho hi set_list ha) hs hw h1) fun E σ H ⟨ρ, h, μ, sr, hr, bk⟩ =>
    stepS (rel := VR) (ma := me) (E := E) sr hr bk fun v d h1 H1 μ1 m1 sr1 hr1 vd bk1 => stepS (rel := VR) (ma := mo) (E := E) sr1 hr1 bk1 fun x a h2 H2 μ2 m2 sr2 hr2 vx bk2 => stepS (rel := VR) (ma := mi) (E := E) sr2 hr2 bk2 fun y b h3 H3 μ3 m3 sr3 hr3 vy bk3 => by
      have vx := vx.mono m3
      have vd := (vd.mono m2).mono m3
      cases vx with
      | @ref p c hi =>
        cases vy with
        | int k =>
          simp only [dSet] at bk3
          split at bk3
          · rename_i l q
            split at bk3
            · rename_i j ej
              obtain ⟨xs, hx, vxs⟩ := hr3.lst hi q
              refine ⟨p, xs, k, j, rfl, rfl, hx, by rw [vxs.length]; exact ej, ?_⟩
              have m5 : Mon g H3 (upd H3 p (.lst (xs.set j v))) μ3 μ3 := (Saf.lst hx).mon
              exact bk3 _ _ μ3 m5 (sr3.mono m5) (hr3.write (u := .lst (l.set j d)) hi q rfl (Saf.lst hx) rfl ⟨_, upd_same, (vxs.set j vd).mono m5⟩)
            · exact bk3.elim
          · exact bk3.elim
        | _ => exact bk3.elim
      | _ => exact bk3.elim
theorem sx_setT (he : PE X e (tE g W me)) (hg : PG X tg (tG g mt)) (hs : swapsWithSole [tg] e pos.line X.env = pure false := by rfl) (hw : swappedStores [tg] e X.env = pure none := by rfl)
    (h1 : (assignEach [tg] X.env).map (·.2) = [assign tg X.env] := by rfl) : PS X (.Assign [tg] e pos) (tS g W (mAsgT mt me)) :=
  ps_mono (ps_asg he hg hs hw h1) fun E σ H ⟨ρ, h, μ, sr, hr, bk⟩ => stepS (rel := VR) (ma := me) (E := E) sr hr bk fun v d h1 H1 μ1 m1 sr1 hr1 vd bk1 => by
    refine ⟨ρ, h1, μ1, d, sr1, hr1, vd, ?_⟩
    split at bk1
    · rename_i ρ' e'
      (try rw [e'])
      exact fun σ' sr' => bk1 σ' H1 μ1 Mon.refl sr' hr1
    · exact bk1.elim
end

/-! ### the end of a law -/
def cmOf (K : PySem.W.Frag) : Str → Option Addr := fun x => match PySem.W.nsIn K mainGlobals x with
  | some (some (.ref C)) => some C
  | _ => none
abbrev gOf (w : World) (K : PySem.W.Frag) : G := ⟨K, cmOf K, w⟩
theorem vrs_ints {g : G} {H : Hp} {μ : List Addr} : ∀ ns : List Int, VRs g H μ (ns.map V.int) (ns.map D.int)
  | [] => .nil
  | n :: ns => .cons (.int n) (vrs_ints ns)
theorem law_start {K : PySem.W.Frag} {F : List D → MH → R D} {H : Hp} {a : Addr} {ns : List Int} {h' : MH} (hO : Only H) (hS : SqL K H a (ns.map V.int)) (hF : F [.ref 0] [.rol (ns.map D.int)] = .ok (.bl true) h') :
    spM (gOf w K) F [.ref a] H (fun v _ => v = .bl true) fun _ _ _ => False := by
  refine ⟨[.ref 0], [.rol (ns.map D.int)], [a], .cons (.ref rfl) .nil, ⟨rfl, fun i p o hi ho => ?_, fun i j p o u hi hj ho hu m1 m2 => ?_⟩, ?_⟩
  · cases i with
    | succ i => simp at hi
    | zero =>
      simp at hi ho
      subst hi ho
      refine ⟨ns.map V.int, ?_, vrs_ints ns⟩
      rcases hS with (h | h) | h
      · rcases hO a with z | ⟨o, xs, z⟩
        · rw [h] at z; cases z
        · rw [h] at z; cases z
      · exact .inl h
      · exact .inr h
  · cases i with
    | succ i => simp at hi
    | zero => cases j with
      | succ j => simp at hj
      | zero => rfl
  · rw [hF]
    intro v H' μ' m hr hv
    cases hv
    rfl
theorem law_end {l : PySem.W.OpenLaw} {k : Nat} {q : Program} {loose : List Str} {XP : (Str → Option Value) → Heap → Prop} {YP : World → Heap → Prop} {d : DefRec} {K : Params → PySem.W.Frag} {x : Str} {F : List D → MH → R D}
    (hF : ∀ ns : List Int, ns.length ≤ 63 → (∀ z ∈ ns, Builtin.Int.intBits z ≤ 1048576) → ∃ h', F [.ref 0] [.rol (ns.map D.int)] = .ok (.bl true) h')
    (hn : l.most = some 63) (hdf : d.params.defaults = []) (hr : Room k PySem.callerA)
    (hY : ∀ (w : World) (h : Heap), YP w h → (K w.params).In h)
    (FF : ∀ (w : World) (mg : Str → Option Value) (fa : Addr) (h : Heap), (K w.params).In h → h.Ns mainGlobals mg → mg d.name = some (.ref fa) →
      ∃ fd : FuncData, (∀ (s : Shared) (u : Value), BindsTo s fd ⟨[u], []⟩ [(x, u)]) ∧
        ∀ base : Heap, (K w.params).In base → base.Ns mainGlobals mg → FnOk l.prog w (K w.params) mg base (L2.CX l.prog w) k fa fd [x] (spM (gOf w (K w.params)) F)) :
    PySem.W.WalkO q loose XP YP l.row.toRowW d [] (fun f vs => PySem.call f vs) :=
  walk_ofB (n := 63) (k := k) (x := x) (CX := fun w => L2.CX l.prog w) (sp := fun w => spM (gOf w (K w.params)) F) hn (by decide) hdf hr hY FF
    (fun w H a ns h1 h2 hO hS => let ⟨h', e⟩ := hF ns h1 h2; law_start hO hS e)
    fun w H s e s' c => by
      obtain ⟨_, _, _, _, _, _, _, _, _, _, _, _, z⟩ := c
      exact z
end Mi
namespace Mi
open PySem L2

/-! ### dict displays of no pair, of one -/
def keyD : D → Option Key
  | .int i => some (.inl i)
  | .str x => some (.inr x)
  | _ => none
def mDict0 : ME := fun _ h => .ok (.ref h.length) (h ++ [.dK []])
def mDict1 (k v : ME) : ME := fun ρ h => (k ρ (h ++ [.dK []])).bind fun x h1 => (v ρ h1).bind fun y h2 => if h2[h.length]? = some (.dK []) then match keyD x with
  | some kk => .ok (.ref h.length) (h2.set h.length (.dK [(kk, y)]))
  | none => .bad else .bad
section
variable {X : Cx} {g : G} {W : WX} {k v : Expr} {mk mv : ME} {pos : Pos}
end
/-! ### a < b < c -/
def mChain (f f' : D → D → MH → R D) (a b c : ME) : ME := fun ρ h => (a ρ h).bind fun x h1 => (b ρ h1).bind fun y h2 => (f x y h2).bind fun z h3 => match z with
  | .bl true => (c ρ h3).bind fun w h4 => f' y w h4
  | .bl false => .ok (.bl false) h3
  | _ => .bad
section
variable {X : Cx} {g : G} {W : WX} {a b c : Expr} {ma mb mc : ME} {pos : Pos} {r r' : R2} {f f' : D → D → MH → R D} {op op' : CmpOp}
end

/-! ### defs by their names -/
/-- a def of the top, as it stands: its text, its parameters -/
def Df (K : PySem.W.Frag) (mg : Str → Option Value) (x : Str) (st : Stmt) (ps : List Str) : Prop := ∃ f fd, Fun K x x st f fd ∧ mg x = some (.ref f) ∧ Binds K fd ps []
/-- a def that does what F says, by at most k calls deep -/
def Cal (P : Program) (w : World) (K : PySem.W.Frag) (mg : Str → Option Value) (base : Heap) (x : Str) (k : Nat) (F : List D → MH → R D) : Prop :=
  ∃ f fd ps, FnOk P w K mg base (L2.CX P w) k f fd ps (spM (gOf w K) F) ∧ mg x = some (.ref f) ∧ PySem.W.keepIn K (.ref f) = true ∧ Binds K fd ps []
section
variable {P : Program} {w : World} {K : PySem.W.Frag} {mg : Str → Option Value} {base : Heap}
theorem df_mk {h : Heap} {x : Str} {st : Stmt} {ps : List Str} {f : Addr} {oc : Value} {od an : Option Addr} {osl : Array (Option Value)} {kV doc pm cdv ct : Value} (X : K.In h) (G : h.Ns mainGlobals mg)
    (a : PySem.W.nsIn K mainGlobals x = some (some (.ref f))) (l : K.lookup f = some ⟨oc, od, .func (PySem.W.fnOf x x (defArgs st) (defBody st) (defScope st) .none kV doc pm an cdv ct), osl⟩)
    (c : PySem.W.codeIn K cdv x = true) (k : PySem.W.keepIn K (.ref f) = true)
    (hb : ∀ (kV doc pm : Value) (an : Option Addr) (cdv ct : Value) (us : List Value), us.length = ps.length → bindArgs (PySem.W.fnOf x x (defArgs st) (defBody st) (defScope st) .none kV doc pm an cdv ct) ⟨us, []⟩ = pure (ps.zip us)) : Df K mg x st ps := by
  have F := fun_mk (st := st) l c k
  exact ⟨f, _, F, PySem.W.mg_of X G a, F.binds hb⟩
theorem Cal.mono {x : Str} {j k : Nat} {F : List D → MH → R D} (c : Cal P w K mg base x j F) (h : j ≤ k) : Cal P w K mg base x k F := by
  obtain ⟨f, fd, ps, F1, m, kp, b⟩ := c
  exact ⟨f, fd, ps, F1.mono h, m, kp, b⟩
theorem cal_mk {x : Str} {st : Stmt} {N ps : List Str} {k : Nat} {body : MS} (d : Df K mg x st ps) (S : FnScope N ps (defScope st))
    (hb : ∀ (f : Addr) (cdv : Value) (A : Around) (outer : List Env) (s : Shared) (H : Hp) (E : XK), Room k (A.deeper (PyProof.Rows.envOfC x (defScope st) s.heap.objs.size f cdv)) →
      PSs (cxOf (L2.CX P w) P w K mg base N x (defScope st) f cdv A outer s H E) (defBody st) (tS (gOf w K) (fun c d _ H' => E c d H') body)) : Cal P w K mg base x (k + 1) (mFun ps.length N.length body) := by
  obtain ⟨f, fd, F, m, b⟩ := d
  exact ⟨f, fd, ps, fn_mk F S (hb f), m, F.kp, b⟩
theorem cal_none {x : Str} {st : Stmt} {ps : List Str} {k : Nat} {F : List D → MH → R D} (d : Df K mg x st ps) (hF : ∀ ds h, F ds h = .bad) : Cal P w K mg base x k F := by
  obtain ⟨f, fd, F, m, b⟩ := d
  exact ⟨f, fd, ps, fn_none hF, m, F.kp, b⟩
end
section
variable {X : Cx} {W : WX} {e : Expr} {es : List Expr} {mr : MA} {p pos : Pos}
theorem se_callC {x : Str} {k : Nat} {F : List D → MH → R D} (c : Cal X.prog X.w X.K X.mg X.base x k F) (hr : Room k X.A) (tk : Takes X W) (ha : PA X (e :: es) (tA (gOf X.w X.K) W mr)) (hg : Gl X x := by rfl) (hdb : (x == ("__debug__" : Str)) = false := by decide)
    (he : starEach (e :: es) X.env = (false, eval e X.env) :: starEach es X.env := by rfl) (hpl : (backTo pos (starEach es X.env)).any (·.1) = false := by rfl) : PE X (.Call (.Name x p) (e :: es) [] pos) (tE (gOf X.w X.K) W (mCall F mr)) := by
  obtain ⟨f, fd, ps, F1, m, kp, b⟩ := c
  exact se_call F1 hr tk m kp b ha hg hdb he hpl
end
end Mi

/-! How the mirror's parts are reckoned, step by step: each rule speaks of a part that stands applied to its slots and heap, and leaves what follows unapplied. -/
namespace Mi
open PySem L2

/-- not by rfl, so that simp writes each step out (the kernel then needs no unfolding of the rest) -/
theorem nr {α : Sort _} {a b : α} (h : a = b) : a = b := h
@[simp] theorem mVar_zero (d : D) (r : Slots) (h : MH) : mVar 0 (some d :: r) h = .ok d h := nr rfl
@[simp] theorem mVar_succ (n : Nat) (o : Option D) (r : Slots) (h : MH) : mVar (n + 1) (o :: r) h = mVar n r h := nr rfl
@[simp] theorem mC_ev (d : D) (ρ : Slots) (h : MH) : mC d ρ h = .ok d h := nr rfl
def bin2 (f : D → D → MH → R D) (b : ME) (ρ : Slots) (r : R D) : R D := r.bind fun x h1 => (b ρ h1).bind fun y h2 => f x y h2
def bin1 (f : D → D → MH → R D) (x : D) (r : R D) : R D := r.bind fun y h2 => f x y h2
@[simp] theorem mBin_ev (f : D → D → MH → R D) (a b : ME) (ρ : Slots) (h : MH) : mBin f a b ρ h = bin2 f b ρ (a ρ h) := nr rfl
@[simp] theorem bin2_ok (f : D → D → MH → R D) (b : ME) (ρ : Slots) (x : D) (h : MH) : bin2 f b ρ (.ok x h) = bin1 f x (b ρ h) := nr rfl
@[simp] theorem bin1_ok (f : D → D → MH → R D) (x y : D) (h : MH) : bin1 f x (.ok y h) = f x y h := nr rfl
def un1 (f : D → MH → R D) : R D → R D
  | .ok y h2 => f y h2
  | .exc x fs h => .exc x fs h
  | .bad => .bad
@[simp] theorem mUn_ev (f : D → MH → R D) (a : ME) (ρ : Slots) (h : MH) : mUn f a ρ h = un1 f (a ρ h) := by
  unfold mUn un1
  cases a ρ h <;> rfl
@[simp] theorem un1_ok (f : D → MH → R D) (x : D) (h : MH) : un1 f (.ok x h) = f x h := nr rfl
@[simp] theorem mNil_ev (ρ : Slots) (h : MH) : mNil ρ h = .ok [] h := nr rfl
def cons1 (t : MA) (ρ : Slots) (r : R D) : R (List D) := r.bind fun x h1 => (t ρ h1).bind fun xs h2 => .ok (x :: xs) h2
def cons2 (x : D) (r : R (List D)) : R (List D) := r.bind fun xs h2 => .ok (x :: xs) h2
@[simp] theorem mCons_ev (a : ME) (r : MA) (ρ : Slots) (h : MH) : mCons a r ρ h = cons1 r ρ (a ρ h) := nr rfl
@[simp] theorem cons1_ok (r : MA) (ρ : Slots) (x : D) (h : MH) : cons1 r ρ (.ok x h) = cons2 x (r ρ h) := nr rfl
@[simp] theorem cons2_ok (x : D) (xs : List D) (h : MH) : cons2 x (.ok xs h) = .ok (x :: xs) h := nr rfl
def call1 (F : List D → MH → R D) : R (List D) → R D
  | .ok xs h1 => F xs h1
  | .exc x fs h => .exc x fs h
  | .bad => .bad
@[simp] theorem mCall_ev (F : List D → MH → R D) (a : MA) (ρ : Slots) (h : MH) : mCall F a ρ h = call1 F (a ρ h) := by
  unfold mCall call1
  cases a ρ h <;> rfl
@[simp] theorem call1_ok (F : List D → MH → R D) (xs : List D) (h : MH) : call1 F (.ok xs h) = F xs h := nr rfl
def tup1 : R (List D) → R D
  | .ok xs h1 => if xs.length ≤ 1000000 then .ok (.tup xs) h1 else .bad
  | .exc x fs h => .exc x fs h
  | .bad => .bad
@[simp] theorem mTup_ev (a : MA) (ρ : Slots) (h : MH) : mTup a ρ h = tup1 (a ρ h) := by
  unfold mTup tup1
  cases a ρ h <;> rfl
@[simp] theorem tup1_ok (xs : List D) (h : MH) : tup1 (.ok xs h) = if xs.length ≤ 1000000 then .ok (.tup xs) h else .bad := nr rfl
def lst1 : R (List D) → R D
  | .ok xs h1 => if xs.length ≤ 1000000 then .ok (.ref h1.length) (h1 ++ [.lst xs]) else .bad
  | .exc x fs h => .exc x fs h
  | .bad => .bad
@[simp] theorem mLst_ev (a : MA) (ρ : Slots) (h : MH) : mLst a ρ h = lst1 (a ρ h) := by
  unfold mLst lst1
  cases a ρ h <;> rfl
@[simp] theorem lst1_ok (xs : List D) (h : MH) : lst1 (.ok xs h) = if xs.length ≤ 1000000 then .ok (.ref h.length) (h ++ [.lst xs]) else .bad := nr rfl
/-! tests -/
def b1 : R D → R Bool
  | .ok (.bl b) h => .ok b h
  | .ok _ _ => .bad
  | .exc x fs h => .exc x fs h
  | .bad => .bad
@[simp] theorem mB_ev (a : ME) (ρ : Slots) (h : MH) : mB a ρ h = b1 (a ρ h) := by
  unfold mB b1
  cases a ρ h with
  | ok x h1 => cases x <;> rfl
  | _ => rfl
@[simp] theorem b1_ok (b : Bool) (h : MH) : b1 (.ok (.bl b) h) = .ok b h := nr rfl
def and1 (b : MT) (ρ : Slots) : R Bool → R Bool
  | .ok true h => b ρ h
  | .ok false h => .ok false h
  | .exc x fs h => .exc x fs h
  | .bad => .bad
def or1 (b : MT) (ρ : Slots) : R Bool → R Bool
  | .ok true h => .ok true h
  | .ok false h => b ρ h
  | .exc x fs h => .exc x fs h
  | .bad => .bad
def not1 : R Bool → R Bool
  | .ok b h => .ok (!b) h
  | .exc x fs h => .exc x fs h
  | .bad => .bad
@[simp] theorem mAnd_ev (a b : MT) (ρ : Slots) (h : MH) : mAnd a b ρ h = and1 b ρ (a ρ h) := by
  unfold mAnd and1
  cases a ρ h with
  | ok x h1 => cases x <;> rfl
  | _ => rfl
@[simp] theorem mOr_ev (a b : MT) (ρ : Slots) (h : MH) : mOr a b ρ h = or1 b ρ (a ρ h) := by
  unfold mOr or1
  cases a ρ h with
  | ok x h1 => cases x <;> rfl
  | _ => rfl
@[simp] theorem mNot_ev (a : MT) (ρ : Slots) (h : MH) : mNot a ρ h = not1 (a ρ h) := by
  unfold mNot not1
  cases a ρ h <;> rfl
@[simp] theorem and1_t (b : MT) (ρ : Slots) (h : MH) : and1 b ρ (.ok true h) = b ρ h := nr rfl
@[simp] theorem and1_f (b : MT) (ρ : Slots) (h : MH) : and1 b ρ (.ok false h) = .ok false h := nr rfl
@[simp] theorem or1_t (b : MT) (ρ : Slots) (h : MH) : or1 b ρ (.ok true h) = .ok true h := nr rfl
@[simp] theorem or1_f (b : MT) (ρ : Slots) (h : MH) : or1 b ρ (.ok false h) = b ρ h := nr rfl
@[simp] theorem not1_ok (b : Bool) (h : MH) : not1 (.ok b h) = .ok (!b) h := nr rfl
def andV1 (b : ME) (ρ : Slots) : R D → R D
  | .ok (.bl true) h => b ρ h
  | .ok (.bl false) h => .ok (.bl false) h
  | .ok _ _ => .bad
  | .exc x fs h => .exc x fs h
  | .bad => .bad
def orV1 (b : ME) (ρ : Slots) : R D → R D
  | .ok (.bl true) h => .ok (.bl true) h
  | .ok (.bl false) h => b ρ h
  | .ok _ _ => .bad
  | .exc x fs h => .exc x fs h
  | .bad => .bad
def notV1 : R D → R D
  | .ok (.bl b) h => .ok (.bl (!b)) h
  | .ok _ _ => .bad
  | .exc x fs h => .exc x fs h
  | .bad => .bad
@[simp] theorem mAndV_ev (a b : ME) (ρ : Slots) (h : MH) : mAndV a b ρ h = andV1 b ρ (a ρ h) := by
  unfold mAndV andV1
  cases a ρ h with
  | ok x h1 => cases x with
    | bl b => cases b <;> rfl
    | _ => rfl
  | _ => rfl
@[simp] theorem mOrV_ev (a b : ME) (ρ : Slots) (h : MH) : mOrV a b ρ h = orV1 b ρ (a ρ h) := by
  unfold mOrV orV1
  cases a ρ h with
  | ok x h1 => cases x with
    | bl b => cases b <;> rfl
    | _ => rfl
  | _ => rfl
@[simp] theorem mNotV_ev (a : ME) (ρ : Slots) (h : MH) : mNotV a ρ h = notV1 (a ρ h) := by
  unfold mNotV notV1
  cases a ρ h with
  | ok x h1 => cases x <;> rfl
  | _ => rfl
@[simp] theorem andV1_t (b : ME) (ρ : Slots) (h : MH) : andV1 b ρ (.ok (.bl true) h) = b ρ h := nr rfl
@[simp] theorem andV1_f (b : ME) (ρ : Slots) (h : MH) : andV1 b ρ (.ok (.bl false) h) = .ok (.bl false) h := nr rfl
@[simp] theorem orV1_t (b : ME) (ρ : Slots) (h : MH) : orV1 b ρ (.ok (.bl true) h) = .ok (.bl true) h := nr rfl
@[simp] theorem orV1_f (b : ME) (ρ : Slots) (h : MH) : orV1 b ρ (.ok (.bl false) h) = b ρ h := nr rfl
@[simp] theorem notV1_ok (b : Bool) (h : MH) : notV1 (.ok (.bl b) h) = .ok (.bl (!b)) h := nr rfl
def ifE1 (a b : ME) (ρ : Slots) : R Bool → R D
  | .ok true h => a ρ h
  | .ok false h => b ρ h
  | .exc x fs h => .exc x fs h
  | .bad => .bad
@[simp] theorem mIfE_ev (c : MT) (a b : ME) (ρ : Slots) (h : MH) : mIfE c a b ρ h = ifE1 a b ρ (c ρ h) := by
  unfold mIfE ifE1
  cases c ρ h with
  | ok x h1 => cases x <;> rfl
  | _ => rfl
@[simp] theorem ifE1_t (a b : ME) (ρ : Slots) (h : MH) : ifE1 a b ρ (.ok true h) = a ρ h := nr rfl
@[simp] theorem ifE1_f (a b : ME) (ρ : Slots) (h : MH) : ifE1 a b ρ (.ok false h) = b ρ h := nr rfl
/-! isinstance, slices, methods -/
def isi1 (T : String) : R D → R D
  | .ok x h => match (tyName h x).bind fun n => kitB n T with
    | some b => .ok (.bl b) h
    | none => .bad
  | .exc x fs h => .exc x fs h
  | .bad => .bad
@[simp] theorem mIsi_ev (T : String) (a : ME) (ρ : Slots) (h : MH) : mIsi T a ρ h = isi1 T (a ρ h) := by
  unfold mIsi isi1
  cases a ρ h <;> rfl
theorem isi1_ok (T : String) (x : D) (h : MH) {n : String} {b : Bool} (hn : tyName h x = some n) (hb : kitB n T = some b) : isi1 T (.ok x h) = .ok (.bl b) h := by
  unfold isi1
  simp only [hn, Option.bind_some, hb]
@[simp] theorem isi_str_str (x : Str) (h : MH) : isi1 "str" (.ok (.str x) h) = .ok (.bl true) h := isi1_ok _ _ _ rfl (by decide +kernel)
@[simp] theorem isi_str_int (x : Int) (h : MH) : isi1 "str" (.ok (.int x) h) = .ok (.bl false) h := isi1_ok _ _ _ rfl (by decide +kernel)
@[simp] theorem isi_str_non (h : MH) : isi1 "str" (.ok .non h) = .ok (.bl false) h := isi1_ok _ _ _ rfl (by decide +kernel)
@[simp] theorem isi_str_bl (b : Bool) (h : MH) : isi1 "str" (.ok (.bl b) h) = .ok (.bl false) h := isi1_ok _ _ _ rfl (by decide +kernel)
@[simp] theorem isi_str_tup (l : List D) (h : MH) : isi1 "str" (.ok (.tup l) h) = .ok (.bl false) h := isi1_ok _ _ _ rfl (by decide +kernel)
@[simp] theorem isi_bool_bl (b : Bool) (h : MH) : isi1 "bool" (.ok (.bl b) h) = .ok (.bl true) h := isi1_ok _ _ _ rfl (by decide +kernel)
@[simp] theorem isi_bool_int (b : Int) (h : MH) : isi1 "bool" (.ok (.int b) h) = .ok (.bl false) h := isi1_ok _ _ _ rfl (by decide +kernel)
@[simp] theorem isi_int_int (b : Int) (h : MH) : isi1 "int" (.ok (.int b) h) = .ok (.bl true) h := isi1_ok _ _ _ rfl (by decide +kernel)
@[simp] theorem isi_tup_tup (l : List D) (h : MH) : isi1 "tuple" (.ok (.tup l) h) = .ok (.bl true) h := isi1_ok _ _ _ rfl (by decide +kernel)
@[simp] theorem isi_tup_str (x : Str) (h : MH) : isi1 "tuple" (.ok (.str x) h) = .ok (.bl false) h := isi1_ok _ _ _ rfl (by decide +kernel)
@[simp] theorem isi_tup_int (x : Int) (h : MH) : isi1 "tuple" (.ok (.int x) h) = .ok (.bl false) h := isi1_ok _ _ _ rfl (by decide +kernel)
@[simp] theorem isi_tup_non (h : MH) : isi1 "tuple" (.ok .non h) = .ok (.bl false) h := isi1_ok _ _ _ rfl (by decide +kernel)
theorem isi_ref (T : String) (i : Nat) (h : MH) (l : List D) (hl : getL h i = some l) {b : Bool} (hb : kitB "list" T = some b) : isi1 T (.ok (.ref i) h) = .ok (.bl b) h := by
  refine isi1_ok _ _ _ (n := "list") ?_ hb
  unfold getL at hl
  unfold tyName
  split at hl <;> simp_all
@[simp] theorem mNo_ev (ρ : Slots) (h : MH) : mNo ρ h = .ok none h := nr rfl
def some1 : R D → R (Option Int)
  | .ok (.int i) h => .ok (some i) h
  | .ok _ _ => .bad
  | .exc x fs h => .exc x fs h
  | .bad => .bad
@[simp] theorem mSome_ev (a : ME) (ρ : Slots) (h : MH) : mSome a ρ h = some1 (a ρ h) := by
  unfold mSome some1
  cases a ρ h with
  | ok x h1 => cases x <;> rfl
  | _ => rfl
@[simp] theorem some1_ok (i : Int) (h : MH) : some1 (.ok (.int i) h) = .ok (some i) h := nr rfl
def sl1 (lo hi : MP) (ρ : Slots) (r : R D) : R D := r.bind fun x h1 => (lo ρ h1).bind fun l h2 => (hi ρ h2).bind fun u h3 => dSl x l u h3
def sl2 (x : D) (hi : MP) (ρ : Slots) (r : R (Option Int)) : R D := r.bind fun l h2 => (hi ρ h2).bind fun u h3 => dSl x l u h3
def sl3 (x : D) (l : Option Int) (r : R (Option Int)) : R D := r.bind fun u h3 => dSl x l u h3
@[simp] theorem mSl_ev (a : ME) (lo hi : MP) (ρ : Slots) (h : MH) : mSl a lo hi ρ h = sl1 lo hi ρ (a ρ h) := nr rfl
@[simp] theorem sl1_ok (lo hi : MP) (ρ : Slots) (x : D) (h : MH) : sl1 lo hi ρ (.ok x h) = sl2 x hi ρ (lo ρ h) := nr rfl
@[simp] theorem sl2_ok (x : D) (hi : MP) (ρ : Slots) (l : Option Int) (h : MH) : sl2 x hi ρ (.ok l h) = sl3 x l (hi ρ h) := nr rfl
@[simp] theorem sl3_ok (x : D) (l u : Option Int) (h : MH) : sl3 x l (.ok u h) = dSl x l u h := nr rfl
def meth1 (T : D → MH → Bool) (f : D → List D → MH → R D) (t : MA) (ρ : Slots) (r : R D) : R D := r.bind fun x h1 => if T x h1 = true then (t ρ h1).bind fun xs h2 => f x xs h2 else .bad
def meth2 (f : D → List D → MH → R D) (x : D) (r : R (List D)) : R D := r.bind fun xs h2 => f x xs h2
@[simp] theorem mMeth_ev (T : D → MH → Bool) (f : D → List D → MH → R D) (a : ME) (r : MA) (ρ : Slots) (h : MH) : mMeth T f a r ρ h = meth1 T f r ρ (a ρ h) := nr rfl
@[simp] theorem meth1_ok (T : D → MH → Bool) (f : D → List D → MH → R D) (r : MA) (ρ : Slots) (x : D) (h : MH) : meth1 T f r ρ (.ok x h) = if T x h = true then meth2 f x (r ρ h) else .bad := nr rfl
@[simp] theorem meth2_ok (f : D → List D → MH → R D) (x : D) (xs : List D) (h : MH) : meth2 f x (.ok xs h) = f x xs h := nr rfl
@[simp] theorem isListD_ref (i : Nat) (h : MH) : isListD (.ref i) h = (getL h i).isSome := nr rfl
@[simp] theorem isStrD_str (x : Str) (h : MH) : isStrD (.str x) h = true := nr rfl
/-! statements -/
def Out.then (b : MS) : Out → Out
  | .nx ρ h => b ρ h
  | o => o
@[simp] theorem mSeq_ev (a b : MS) (ρ : Slots) (h : MH) : mSeq a b ρ h = (a ρ h).then b := by
  unfold mSeq Out.then
  cases a ρ h <;> rfl
@[simp] theorem then_nx (b : MS) (ρ : Slots) (h : MH) : Out.then b (.nx ρ h) = b ρ h := nr rfl
@[simp] theorem then_rt (b : MS) (d : D) (h : MH) : Out.then b (.rt d h) = .rt d h := nr rfl
@[simp] theorem then_bk (b : MS) (ρ : Slots) (h : MH) : Out.then b (.bk ρ h) = .bk ρ h := nr rfl
@[simp] theorem then_ct (b : MS) (ρ : Slots) (h : MH) : Out.then b (.ct ρ h) = .ct ρ h := nr rfl
@[simp] theorem then_exc (b : MS) (x : Str) (fs : List (Str × D)) (ρ : Slots) (h : MH) : Out.then b (.exc x fs ρ h) = .exc x fs ρ h := nr rfl
@[simp] theorem mSkip_ev (ρ : Slots) (h : MH) : mSkip ρ h = .nx ρ h := nr rfl
@[simp] theorem mBreak_ev (ρ : Slots) (h : MH) : mBreak ρ h = .bk ρ h := nr rfl
@[simp] theorem mCont_ev (ρ : Slots) (h : MH) : mCont ρ h = .ct ρ h := nr rfl
@[simp] theorem mRetN_ev (ρ : Slots) (h : MH) : mRetN ρ h = .rt .non h := nr rfl
def asg1 (i : Nat) (ρ : Slots) : R D → Out
  | .ok d h => .nx (ρ.set i (some d)) h
  | .exc x fs h => .exc x fs ρ h
  | .bad => .bad
def ret1 (ρ : Slots) : R D → Out
  | .ok d h => .rt d h
  | .exc x fs h => .exc x fs ρ h
  | .bad => .bad
def drop1 (ρ : Slots) : R D → Out
  | .ok d h => .nx ρ h
  | .exc x fs h => .exc x fs ρ h
  | .bad => .bad
def if1 (a b : MS) (ρ : Slots) : R Bool → Out
  | .ok true h => a ρ h
  | .ok false h => b ρ h
  | .exc x fs h => .exc x fs ρ h
  | .bad => .bad
@[simp] theorem mAsg_ev (i : Nat) (e : ME) (ρ : Slots) (h : MH) : mAsg i e ρ h = asg1 i ρ (e ρ h) := by
  unfold mAsg asg1
  cases e ρ h <;> rfl
@[simp] theorem asg1_ok (i : Nat) (ρ : Slots) (d : D) (h : MH) : asg1 i ρ (.ok d h) = .nx (ρ.set i (some d)) h := nr rfl
@[simp] theorem mRet_ev (e : ME) (ρ : Slots) (h : MH) : mRet e ρ h = ret1 ρ (e ρ h) := by
  unfold mRet ret1
  cases e ρ h <;> rfl
@[simp] theorem ret1_ok (ρ : Slots) (d : D) (h : MH) : ret1 ρ (.ok d h) = .rt d h := nr rfl
@[simp] theorem mDrop_ev (e : ME) (ρ : Slots) (h : MH) : mDrop e ρ h = drop1 ρ (e ρ h) := by
  unfold mDrop drop1
  cases e ρ h <;> rfl
@[simp] theorem drop1_ok (ρ : Slots) (d : D) (h : MH) : drop1 ρ (.ok d h) = .nx ρ h := nr rfl
@[simp] theorem mIf_ev (c : MT) (a b : MS) (ρ : Slots) (h : MH) : mIf c a b ρ h = if1 a b ρ (c ρ h) := by
  unfold mIf if1
  cases c ρ h with
  | ok x h1 => cases x <;> rfl
  | _ => rfl
@[simp] theorem if1_t (a b : MS) (ρ : Slots) (h : MH) : if1 a b ρ (.ok true h) = a ρ h := nr rfl
@[simp] theorem if1_f (a b : MS) (ρ : Slots) (h : MH) : if1 a b ρ (.ok false h) = b ρ h := nr rfl
def for1 (tg : MG) (body : MS) (ρ : Slots) : R (List D × (MH → Bool)) → Out
  | .ok a h => forGo a.2 tg body a.1 ρ h
  | .exc x fs h => .exc x fs ρ h
  | .bad => .bad
@[simp] theorem mFor_ev (it : MI) (tg : MG) (body : MS) (ρ : Slots) (h : MH) : mFor it tg body ρ h = for1 tg body ρ (it ρ h) := by
  unfold mFor for1
  cases it ρ h <;> rfl
@[simp] theorem for1_ok (tg : MG) (body : MS) (ρ : Slots) (l : List D) (gd : MH → Bool) (h : MH) : for1 tg body ρ (.ok (l, gd) h) = forGo gd tg body l ρ h := nr rfl
def rg1 (f : Int → Nat → List D) : R D → R (List D × (MH → Bool))
  | .ok x h => dR1 f x h
  | .exc x fs h => .exc x fs h
  | .bad => .bad
@[simp] theorem mRange1_ev (a : ME) (ρ : Slots) (h : MH) : mRange1 a ρ h = rg1 rangeD (a ρ h) := by
  unfold mRange1 rg1
  cases a ρ h <;> rfl
@[simp] theorem mRev1_ev (a : ME) (ρ : Slots) (h : MH) : mRev1 a ρ h = rg1 revRangeD (a ρ h) := by
  unfold mRev1 rg1
  cases a ρ h <;> rfl
@[simp] theorem rg1_ok (f : Int → Nat → List D) (j : Int) (h : MH) : rg1 f (.ok (.int j) h) = if lim62 j = true then .ok (f 0 j.toNat, yes) h else .bad := nr rfl
def rg2 (f : Int → Nat → List D) (b : ME) (ρ : Slots) (r : R D) : R (List D × (MH → Bool)) := r.bind fun x h => (b ρ h).bind fun y h2 => dR2 f x y h2
def rg3 (f : Int → Nat → List D) (x : D) (r : R D) : R (List D × (MH → Bool)) := r.bind fun y h => dR2 f x y h
@[simp] theorem mRange2_ev (a b : ME) (ρ : Slots) (h : MH) : mRange2 a b ρ h = rg2 rangeD b ρ (a ρ h) := nr rfl
@[simp] theorem mRev2_ev (a b : ME) (ρ : Slots) (h : MH) : mRev2 a b ρ h = rg2 revRangeD b ρ (a ρ h) := nr rfl
@[simp] theorem rg2_ok (f : Int → Nat → List D) (b : ME) (ρ : Slots) (x : D) (h : MH) : rg2 f b ρ (.ok x h) = rg3 f x (b ρ h) := nr rfl
@[simp] theorem rg3_ok (f : Int → Nat → List D) (i j : Int) (h : MH) : rg3 f (.int i) (.ok (.int j) h) = if lim62 i = true ∧ lim62 j = true then .ok (f i (j - i).toNat, yes) h else .bad := nr rfl
def iter1 : R D → R (List D × (MH → Bool))
  | .ok x h => match itemsOf x h with
    | some r => .ok r h
    | none => .bad
  | .exc x fs h => .exc x fs h
  | .bad => .bad
@[simp] theorem mIter_ev (a : ME) (ρ : Slots) (h : MH) : mIter a ρ h = iter1 (a ρ h) := by
  unfold mIter iter1
  cases a ρ h <;> rfl
@[simp] theorem iter1_tup (l : List D) (h : MH) : iter1 (.ok (.tup l) h) = .ok (l, yes) h := nr rfl
@[simp] theorem iter1_str (z : Str) (h : MH) : iter1 (.ok (.str z) h) = .ok (z.cps.toList.map fun c => .str ⟨#[c]⟩, yes) h := nr rfl
theorem iter1_ref (i : Nat) (h : MH) (l : List D) (hl : getL h i = some l) : iter1 (.ok (.ref i) h) = .ok (l, fun h' => decide (getL h' i = some l)) h := by
  simp [iter1, itemsOf, hl]
@[simp] theorem yes_ev (h : MH) : yes h = true := nr rfl
@[simp] theorem mgName_ev (i : Nat) (d : D) (ρ : Slots) : mgName i d ρ = some (ρ.set i (some d)) := nr rfl
/-- a def's end -/
def fin1 : Out → R D
  | .nx _ h => .ok .non h
  | .rt d h => .ok d h
  | .exc x fs _ h => .exc x fs h
  | _ => .bad
@[simp] theorem fin1_nx (ρ : Slots) (h : MH) : fin1 (.nx ρ h) = .ok .non h := nr rfl
@[simp] theorem fin1_rt (d : D) (h : MH) : fin1 (.rt d h) = .ok d h := nr rfl
@[simp] theorem fin1_exc (x : Str) (fs : List (Str × D)) (ρ : Slots) (h : MH) : fin1 (.exc x fs ρ h) = .exc x fs h := nr rfl
@[simp] theorem rep0 : List.replicate 0 (none : Option D) = [] := nr rfl
/-! ### loops -/
theorem rangeD_get {i : Int} {n k : Nat} {d : D} (h : (rangeD i n)[k]? = some d) : k < n ∧ d = .int (i + (k : Int)) := by
  simp only [rangeD, List.getElem?_map, Option.map_eq_some_iff] at h
  obtain ⟨a, h1, h2⟩ := h
  have := List.getElem?_eq_some_iff.mp h1
  obtain ⟨lt, e⟩ := this
  simp at lt e
  subst e
  exact ⟨lt, h2.symm⟩
theorem revRangeD_get {i : Int} {n k : Nat} {d : D} (h : (revRangeD i n)[k]? = some d) : k < n ∧ d = .int (i + (n : Int) - 1 - (k : Int)) := by
  simp only [revRangeD, List.getElem?_map, Option.map_eq_some_iff] at h
  obtain ⟨a, h1, h2⟩ := h
  have := List.getElem?_eq_some_iff.mp h1
  obtain ⟨lt, e⟩ := this
  simp at lt e
  subst e
  exact ⟨lt, h2.symm⟩
@[simp] theorem rangeD_length (i : Int) (n : Nat) : (rangeD i n).length = n := by simp [rangeD]
@[simp] theorem revRangeD_length (i : Int) (n : Nat) : (revRangeD i n).length = n := by simp [revRangeD]
/-! ### numbers of bits, places -/
theorem bits_lt {i : Int} {n : Nat} (h : i.natAbs < 2 ^ n) : Builtin.Int.intBits i ≤ n := by
  unfold Builtin.Int.intBits
  split
  · omega
  · rename_i hz
    have : i.natAbs.log2 < n := (Nat.log2_lt (by simpa using hz)).mpr h
    omega
theorem bits_mono {i j : Int} (h : i.natAbs ≤ j.natAbs) : Builtin.Int.intBits i ≤ Builtin.Int.intBits j := by
  unfold Builtin.Int.intBits
  split
  · omega
  · rename_i hz
    have hz' : i.natAbs ≠ 0 := by simpa using hz
    have hj : j.natAbs ≠ 0 := by omega
    rw [if_neg (by simpa using hj)]
    have : i.natAbs.log2 ≤ j.natAbs.log2 := by
      have h1 : 2 ^ i.natAbs.log2 ≤ i.natAbs := Nat.log2_self_le hz'
      have := (Nat.le_log2 hj).mpr (Nat.le_trans h1 h)
      exact this
    omega
theorem atI_in {α : Type} {l : List α} {i : Int} (h0 : 0 ≤ i) (h1 : i < (l.length : Int)) : ∃ c, atI l i = some c ∧ l[i.toNat]? = some c := by
  have lt : i.toNat < l.length := by omega
  refine ⟨l[i.toNat], ?_, List.getElem?_eq_getElem lt⟩
  unfold atI ixN
  rw [if_pos h0, if_pos h1]
  simp [lt]
theorem atI_at {α : Type} {l : List α} {k : Nat} {c : α} (h : l[k]? = some c) : atI l (k : Int) = some c := by
  have lt := (List.getElem?_eq_some_iff.mp h).1
  unfold atI ixN
  rw [if_pos (by omega), if_pos (by omega)]
  simpa using h
/-! ### operators at plain values -/
section
variable (i j : Int) (x y : Str) (a b : Bool) (l m : List D) (h : MH)
@[simp] theorem dAdd_int : dAdd (.int i) (.int j) h = .ok (.int (i + j)) h := nr rfl
@[simp] theorem dAdd_str : dAdd (.str x) (.str y) h = if x.length + y.length ≤ 1000000 then .ok (.str (x ++ y)) h else .bad := nr rfl
@[simp] theorem dAdd_tup : dAdd (.tup l) (.tup m) h = if l.length + m.length ≤ 1000000 then .ok (.tup (l ++ m)) h else .bad := nr rfl
@[simp] theorem dSub_int : dSub (.int i) (.int j) h = .ok (.int (i - j)) h := nr rfl
theorem dMul_int : dMul (.int i) (.int j) h = if (Builtin.Int.intBits i : Int) + (Builtin.Int.intBits j : Int) ≤ 134217728 then .ok (.int (i * j)) h else .bad := rfl
@[simp] theorem dMul_str : dMul (.str x) (.int j) h = if j ≤ 1000000 ∧ -1000000 ≤ j ∧ x.length * j.toNat ≤ 1000000 then .ok (.str (Txt.mul x j)) h else .bad := nr rfl
theorem dFdiv_int : dFdiv (.int i) (.int j) h = if 0 < j ∧ j.natAbs.log2 < 9000 then .ok (.int (i / j)) h else .bad := rfl
@[simp] theorem dMod_int : dMod (.int i) (.int j) h = if 0 < j then .ok (.int (i % j)) h else .bad := nr rfl
@[simp] theorem dFdiv_small (h0 : 0 < j) (h1 : j < 18446744073709551616) : dFdiv (.int i) (.int j) h = .ok (.int (i / j)) h := by
  rw [dFdiv_int, if_pos ⟨h0, Nat.lt_trans (PySem.Flt.log2_lt_of (k := 64) (by decide) (by omega)) (by decide)⟩]
theorem dMul_bits {a b : Nat} (ha : Builtin.Int.intBits i ≤ a) (hb : Builtin.Int.intBits j ≤ b) (hab : a + b ≤ 134217728) : dMul (.int i) (.int j) h = .ok (.int (i * j)) h := by
  rw [dMul_int, if_pos (by omega)]
theorem bits_small {i : Int} (h0 : -18446744073709551616 < i) (h1 : i < 18446744073709551616) : Builtin.Int.intBits i ≤ 64 := bits_lt (by omega)
theorem dMul_s (h0 : -18446744073709551616 < i) (h1 : i < 18446744073709551616) (h2 : -18446744073709551616 < j) (h3 : j < 18446744073709551616) : dMul (.int i) (.int j) h = .ok (.int (i * j)) h := dMul_bits i j h (bits_small h0 h1) (bits_small h2 h3) (by decide)
@[simp] theorem dPow_int : dPow (.int i) (.int j) h = if 0 ≤ j ∧ j ≤ 1000000 ∧ i.natAbs < 2 ^ 64 then .ok (.int (i ^ j.toNat)) h else .bad := nr rfl
@[simp] theorem dShl_int : dShl (.int i) (.int j) h = if 0 ≤ j ∧ j ≤ 1000000 ∧ i.natAbs < 2 ^ 64 then .ok (.int (i * 2 ^ j.toNat)) h else .bad := nr rfl
@[simp] theorem dLt_int : dLt (.int i) (.int j) h = .ok (.bl (decide (i < j))) h := nr rfl
@[simp] theorem dLe_int : dLe (.int i) (.int j) h = .ok (.bl (decide (i ≤ j))) h := nr rfl
@[simp] theorem dGt_int : dGt (.int i) (.int j) h = .ok (.bl (decide (j < i))) h := nr rfl
@[simp] theorem dGe_int : dGe (.int i) (.int j) h = .ok (.bl (decide (j ≤ i))) h := nr rfl
@[simp] theorem dNeg_int : dNeg (.int i) h = .ok (.int (-i)) h := nr rfl
@[simp] theorem eqD_int : eqD (.int i) (.int j) h = some (decide (i = j)) := by
  simp [eqD, scalD]
@[simp] theorem eqD_str : eqD (.str x) (.str y) h = some (decide (x = y)) := by
  simp [eqD, scalD]
@[simp] theorem eqD_bl : eqD (.bl a) (.bl b) h = some (decide (a = b)) := by
  simp [eqD, scalD]
@[simp] theorem eqD_non : eqD .non .non h = some true := by
  simp [eqD, scalD]
@[simp] theorem eqD_int_non : eqD (.int i) .non h = some false := by
  simp [eqD, scalD]
@[simp] theorem eqD_non_int : eqD .non (.int i) h = some false := by
  simp [eqD, scalD]
theorem dEq_of {a b : D} {k : Bool} {h : MH} (e : eqD a b h = some k) : dEq a b h = .ok (.bl k) h := by unfold dEq; rw [e]
theorem dNe_of {a b : D} {k : Bool} {h : MH} (e : eqD a b h = some k) : dNe a b h = .ok (.bl (!k)) h := by unfold dNe; rw [e]
@[simp] theorem dEq_int : dEq (.int i) (.int j) h = .ok (.bl (decide (i = j))) h := dEq_of (eqD_int i j h)
@[simp] theorem dNe_int : dNe (.int i) (.int j) h = .ok (.bl (!decide (i = j))) h := dNe_of (eqD_int i j h)
@[simp] theorem dEq_str : dEq (.str x) (.str y) h = .ok (.bl (decide (x = y))) h := dEq_of (eqD_str x y h)
@[simp] theorem dNe_str : dNe (.str x) (.str y) h = .ok (.bl (!decide (x = y))) h := dNe_of (eqD_str x y h)
@[simp] theorem dEq_bl : dEq (.bl a) (.bl b) h = .ok (.bl (decide (a = b))) h := dEq_of (eqD_bl a b h)
@[simp] theorem dIsN_ev (d : D) : dIsN d .non h = .ok (.bl (decide (d = .non))) h := nr rfl
@[simp] theorem dNotN_ev (d : D) : dNotN d .non h = .ok (.bl (!decide (d = .non))) h := nr rfl
@[simp] theorem dLen_str : dLen [.str x] h = if x.length ≤ 1000000 then .ok (.int x.length) h else .bad := nr rfl
@[simp] theorem dLen_tup : dLen [.tup l] h = .ok (.int l.length) h := nr rfl
theorem dLen_ref {i : Nat} {h : MH} {l : List D} (e : getL h i = some l) : dLen [.ref i] h = .ok (.int l.length) h := by simp [dLen, e]
@[simp] theorem dAbs_ev : dAbs [.int i] h = .ok (.int (if i < 0 then -i else i)) h := nr rfl
@[simp] theorem dMax_ev : dMax [.int i, .int j] h = .ok (.int (if j > i then j else i)) h := nr rfl
@[simp] theorem dMin_ev : dMin [.int i, .int j] h = .ok (.int (if j < i then j else i)) h := nr rfl
@[simp] theorem dInt_int : dInt [.int i] h = .ok (.int i) h := nr rfl
@[simp] theorem dInt_bl : dInt [.bl a] h = .ok (.int (if a then 1 else 0)) h := nr rfl
@[simp] theorem dSl_str (lo hi : Option Int) : dSl (.str x) lo hi h = if x.length ≤ 1000000 then .ok (.str (cutS x lo hi)) h else .bad := nr rfl
@[simp] theorem dSl_tup (lo hi : Option Int) : dSl (.tup l) lo hi h = .ok (.tup (cutD l lo hi)) h := nr rfl
theorem dIx_str {c : Nat} {x : Str} {i : Int} (hz : x.length ≤ 1000000) (e : atI x.cps.toList i = some c) : dIx (.str x) (.int i) h = .ok (.str ⟨#[c]⟩) h := by
  simp [dIx, hz, e]
theorem dIx_tup {d : D} {l : List D} {i : Int} (e : atI l i = some d) : dIx (.tup l) (.int i) h = .ok d h := by simp [dIx, seqOf, e]
theorem dIx_ref {d : D} {l : List D} {k : Nat} {i : Int} {h : MH} (hl : getL h k = some l) (e : atI l i = some d) : dIx (.ref k) (.int i) h = .ok d h := by simp [dIx, seqOf, hl, e]
end
end Mi
namespace Mi
open PySem L2

/-! ### zip of two lists -/
def zipD (l m : List D) : List D := (l.zip m).map fun p => .tup [p.1, p.2]
def mZip (a b : ME) : MI := fun ρ h => (a ρ h).bind fun x h1 => (b ρ h1).bind fun y h2 => match x, y with
  | .ref i, .ref j => match getL h2 i, getL h2 j with
    | some l, some m => .ok (zipD l m, fun h' => decide (getL h' i = some l) && decide (getL h' j = some m)) h2
    | _, _ => .bad
  | _, _ => .bad
section
variable {X : Cx} {g : G} {W : WX} {a b : Expr} {ma mb : ME} {pos : Pos}
/-! ### xs[::-1], list(range(..)) -/
def dRevL (x : D) (h : MH) : R D := match x with
  | .ref i => match getL h i with
    | some l => .ok (.ref h.length) (h ++ [.lst l.reverse])
    | none => .bad
  | _ => .bad
def mRevL (a : ME) : ME := mUn dRevL a
def lstRg (i j : Int) (h : MH) : R D := if 0 ≤ i ∧ j ≤ 1000000 ∧ i ≤ 1000000 ∧ 0 ≤ j then .ok (.ref h.length) (h ++ [.lst (rangeD i (j - i).toNat)]) else .bad
def mListRg1 (a : ME) : ME := mUn (fun x h => match x with
  | .int j => lstRg 0 j h
  | _ => .bad) a
def mListRg2 (a b : ME) : ME := mBin (fun x y h => match x, y with
  | .int i, .int j => lstRg i j h
  | _, _ => .bad) a b
/-! ### t.index(x) -/
def fidx (z : Str) : List Str → Option Nat
  | [] => none
  | y :: r => if y = z then some 0 else (fidx z r).map (· + 1)
def dTIdx (x y : D) (h : MH) : R D := match x, y with
  | .tup l, .str z => match allStr l with
    | some ys => match fidx z ys with
      | some j => .ok (.int j) h
      | none => .bad
    | none => .bad
  | _, _ => .bad
def mTIndex (a b : ME) : ME := fun ρ h => (a ρ h).bind fun x h1 => match x with
  | .tup l => (b ρ h1).bind fun y h2 => dTIdx (.tup l) y h2
  | _ => .bad
end
/-! ### sorted: ints, texts (fewer than 64) -/
abbrev ltC : List Nat → List Nat → Bool := PySem.Spec.ltCps
def leS (a b : Str) : Bool := !ltC b.cps.toList a.cps.toList
def sortS (l : List Str) : List Str := l.mergeSort leS
def sortI (l : List Int) : List Int := l.mergeSort fun a b => decide (a ≤ b)
def allInt : List D → Option (List Int)
  | [] => some []
  | .int b :: r => (allInt r).map (b :: ·)
  | _ => none
def dSorted : List D → MH → R D
  | [.ref i], h => match getL h i with
    | some l => if l.length < 64 then match allStr l with
      | some ys => .ok (.ref h.length) (h ++ [.lst ((sortS ys).map .str)])
      | none => match allInt l with
        | some ys => .ok (.ref h.length) (h ++ [.lst ((sortI ys).map .int)])
        | none => .bad else .bad
    | none => .bad
  | _, _ => .bad
section
variable {X : Cx} {g : G}
end
end Mi

/-! A calculus for the mirror: what must hold ahead of a part so that a thing holds behind it. -/
namespace Mi
open PySem L2
abbrev XE := Str → List (Str × D) → MH → Prop
@[irreducible] def Sat {α : Type} (r : R α) (Q : α → MH → Prop) (E : XE) : Prop := match r with
  | .ok d h => Q d h
  | .exc x fs h => E x fs h
  | .bad => False
abbrev SP := Slots → MH → Prop
abbrev SX := Str → List (Str × D) → Slots → MH → Prop
@[irreducible] def OS (o : Out) (N : SP) (T : D → MH → Prop) (B C : SP) (E : SX) : Prop := match o with
  | .nx ρ h => N ρ h
  | .rt d h => T d h
  | .bk ρ h => B ρ h
  | .ct ρ h => C ρ h
  | .exc x fs ρ h => E x fs ρ h
  | .bad => False
abbrev noX : XE := fun _ _ _ => False
abbrev noS : SP := fun _ _ => False
section
variable {α : Type} {Q : α → MH → Prop} {E : XE}
theorem Sat_ok (d : α) (h : MH) : Sat (.ok d h) Q E = Q d h := by unfold Sat; rfl
theorem Sat_exc (x : Str) (fs : List (Str × D)) (h : MH) : Sat (.exc x fs h : R α) Q E = E x fs h := by unfold Sat; rfl
theorem Sat_bad : Sat (.bad : R α) Q E = False := by unfold Sat; rfl
variable {N : SP} {T : D → MH → Prop} {B C : SP} {Es : SX}
theorem OS_nx (ρ : Slots) (h : MH) : OS (.nx ρ h) N T B C Es = N ρ h := by unfold OS; rfl
theorem OS_rt (d : D) (h : MH) : OS (.rt d h) N T B C Es = T d h := by unfold OS; rfl
theorem OS_bk (ρ : Slots) (h : MH) : OS (.bk ρ h) N T B C Es = B ρ h := by unfold OS; rfl
theorem OS_ct (ρ : Slots) (h : MH) : OS (.ct ρ h) N T B C Es = C ρ h := by unfold OS; rfl
theorem OS_exc (x : Str) (fs : List (Str × D)) (ρ : Slots) (h : MH) : OS (.exc x fs ρ h) N T B C Es = Es x fs ρ h := by unfold OS; rfl
theorem OS_bad : OS .bad N T B C Es = False := by unfold OS; rfl
end
theorem Sat.monoE {α : Type} {r : R α} {Q Q' : α → MH → Prop} {E E' : XE} (s : Sat r Q E) (k : ∀ d h, Q d h → Q' d h) (k' : ∀ x fs h, E x fs h → E' x fs h) : Sat r Q' E' := by
  cases r with
  | ok d h => rw [Sat_ok] at s ⊢; exact k d h s
  | exc x fs h => rw [Sat_exc] at s ⊢; exact k' x fs h s
  | _ => rw [Sat_bad] at s; exact s.elim
theorem Sat.mono {α : Type} {r : R α} {Q Q' : α → MH → Prop} {E : XE} (s : Sat r Q noX) (k : ∀ d h, Q d h → Q' d h) : Sat r Q' E := s.monoE k fun _ _ _ z => z.elim
theorem Sat.get {α : Type} {r : R α} {Q : α → MH → Prop} (s : Sat r Q noX) : ∃ d h, r = .ok d h ∧ Q d h := by
  cases r with
  | ok d h => rw [Sat_ok] at s; exact ⟨d, h, rfl, s⟩
  | exc x fs h => rw [Sat_exc] at s; exact s.elim
  | _ => rw [Sat_bad] at s; exact s.elim
theorem Sat.bnd {α β : Type} {r : R α} {f : α → MH → R β} {Q : β → MH → Prop} {E : XE} (s : Sat r (fun x h => Sat (f x h) Q E) E) : Sat (r.bind f) Q E := by
  cases r with
  | ok d h => rw [Sat_ok] at s; exact s
  | exc x fs h => rw [Sat_exc] at s; show Sat (.exc x fs h) Q E; rw [Sat_exc]; exact s
  | _ => rw [Sat_bad] at s; exact s.elim
theorem Sat.ot {α : Type} {r : R α} {ρ : Slots} {f : α → MH → Out} {N : SP} {T : D → MH → Prop} {B C : SP} {E : SX} (s : Sat r (fun x h => OS (f x h) N T B C E) (fun x fs h => E x fs ρ h)) : OS (r.out ρ f) N T B C E := by
  cases r with
  | ok d h => rw [Sat_ok] at s; exact s
  | exc x fs h => rw [Sat_exc] at s; show OS (.exc x fs ρ h) N T B C E; rw [OS_exc]; exact s
  | _ => rw [Sat_bad] at s; exact s.elim
theorem OS.mono {o : Out} {N N' : SP} {T T' : D → MH → Prop} {B B' C C' : SP} {E E' : SX} (s : OS o N T B C E) (kn : ∀ ρ h, N ρ h → N' ρ h) (kt : ∀ d h, T d h → T' d h) (kb : ∀ ρ h, B ρ h → B' ρ h) (kc : ∀ ρ h, C ρ h → C' ρ h) (ke : ∀ x fs ρ h, E x fs ρ h → E' x fs ρ h) : OS o N' T' B' C' E' := by
  cases o with
  | nx ρ h => rw [OS_nx] at s ⊢; exact kn ρ h s
  | rt d h => rw [OS_rt] at s ⊢; exact kt d h s
  | bk ρ h => rw [OS_bk] at s ⊢; exact kb ρ h s
  | ct ρ h => rw [OS_ct] at s ⊢; exact kc ρ h s
  | exc x fs ρ h => rw [OS_exc] at s ⊢; exact ke x fs ρ h s
  | bad => rw [OS_bad] at s; exact s.elim
theorem w_ok {α : Type} {Q : α → MH → Prop} {E : XE} {h : MH} {d : α} (q : Q d h) : Sat (.ok d h) Q E := by rw [Sat_ok]; exact q
theorem w_eq {α : Type} {Q : α → MH → Prop} {E : XE} {x : R α} {d : α} {h' : MH} (e : x = .ok d h') (q : Q d h') : Sat x Q E := by rw [e]; exact w_ok q
theorem w_nx {N : SP} {T : D → MH → Prop} {B C : SP} {E : SX} {ρ : Slots} {h : MH} (q : N ρ h) : OS (.nx ρ h) N T B C E := by rw [OS_nx]; exact q
theorem w_rt {N : SP} {T : D → MH → Prop} {B C : SP} {E : SX} {d : D} {h : MH} (q : T d h) : OS (.rt d h) N T B C E := by rw [OS_rt]; exact q
theorem w_bk {N : SP} {T : D → MH → Prop} {B C : SP} {E : SX} {ρ : Slots} {h : MH} (q : B ρ h) : OS (.bk ρ h) N T B C E := by rw [OS_bk]; exact q
theorem w_ct {N : SP} {T : D → MH → Prop} {B C : SP} {E : SX} {ρ : Slots} {h : MH} (q : C ρ h) : OS (.ct ρ h) N T B C E := by rw [OS_ct]; exact q
def Br (p A B : Prop) : Prop := (p → A) ∧ (¬p → B)
theorem br_t {p A B : Prop} (hp : p) (a : A) : Br p A B := ⟨fun _ => a, fun n => absurd hp n⟩
theorem br_f {p A B : Prop} (hp : ¬p) (b : B) : Br p A B := ⟨fun n => absurd n hp, fun _ => b⟩
theorem br_d {p : Prop} [Decidable p] {A B : Prop} (a : p → A) (b : ¬p → B) : Br (decide p = true) A B := ⟨fun n => a (of_decide_eq_true n), fun n => b (of_decide_eq_false (by simpa using n))⟩
theorem br_n {b : Bool} {A B : Prop} (a : Br (b = true) B A) : Br ((!b) = true) A B := ⟨fun n => a.2 (by simp at n; simp [n]), fun n => a.1 (by simpa using n)⟩
theorem br_dt {p : Prop} [Decidable p] {A B : Prop} (hp : p) (a : A) : Br (decide p = true) A B := br_t (decide_eq_true hp) a
theorem br_df {p : Prop} [Decidable p] {A B : Prop} (hp : ¬p) (a : B) : Br (decide p = true) A B := br_f (by simp [hp]) a
theorem br_tt {A B : Prop} (a : A) : Br (true = true) A B := br_t rfl a
theorem br_ff {A B : Prop} (b : B) : Br (false = true) A B := br_f (by decide) b
section
variable {α : Type} {Q : D → MH → Prop} {QA : List D → MH → Prop} {QB : Bool → MH → Prop} {QP : Option Int → MH → Prop} {QI : List D × (MH → Bool) → MH → Prop} {E : XE} {ρ : Slots} {h : MH} {a b c e : ME} {r : MA} {ta tb : MT} {lo hi : MP}
theorem w_var {i : Nat} {d : D} (e : ρ[i]? = some (some d)) (q : Q d h) : Sat (mVar i ρ h) Q E := by
  unfold mVar
  rw [e]
  exact w_ok q
theorem w_c {d : D} (q : Q d h) : Sat (mC d ρ h) Q E := w_ok q
theorem w_bin {f : D → D → MH → R D} (q : Sat (a ρ h) (fun x h1 => Sat (b ρ h1) (fun y h2 => Sat (f x y h2) Q E) E) E) : Sat (mBin f a b ρ h) Q E := Sat.bnd (q.monoE (fun _ _ z => Sat.bnd z) fun _ _ _ z => z)
theorem w_un {f : D → MH → R D} (q : Sat (a ρ h) (fun x h1 => Sat (f x h1) Q E) E) : Sat (mUn f a ρ h) Q E := Sat.bnd q
theorem w_nil (q : QA [] h) : Sat (mNil ρ h) QA E := w_ok q
theorem w_cons (q : Sat (a ρ h) (fun x h1 => Sat (r ρ h1) (fun xs h2 => QA (x :: xs) h2) E) E) : Sat (mCons a r ρ h) QA E := Sat.bnd (q.monoE (fun _ _ z => Sat.bnd (z.monoE (fun _ _ z => w_ok z) fun _ _ _ z => z)) fun _ _ _ z => z)
def toTup (xs : List D) (h1 : MH) : R D := if xs.length ≤ 1000000 then .ok (.tup xs) h1 else .bad
def toLst (xs : List D) (h1 : MH) : R D := if xs.length ≤ 1000000 then .ok (.ref h1.length) (h1 ++ [.lst xs]) else .bad
theorem w_tup (q : Sat (r ρ h) (fun xs h1 => Sat (toTup xs h1) Q E) E) : Sat (mTup r ρ h) Q E := Sat.bnd q
theorem w_lst (q : Sat (r ρ h) (fun xs h1 => Sat (toLst xs h1) Q E) E) : Sat (mLst r ρ h) Q E := Sat.bnd q
theorem w_toTup {xs : List D} (l : xs.length ≤ 1000000) (q : Q (.tup xs) h) : Sat (toTup xs h) Q E := by unfold toTup; rw [if_pos l]; exact w_ok q
theorem w_toLst {xs : List D} (l : xs.length ≤ 1000000) (q : Q (.ref h.length) (h ++ [.lst xs])) : Sat (toLst xs h) Q E := by unfold toLst; rw [if_pos l]; exact w_ok q
theorem w_call {F : List D → MH → R D} (q : Sat (r ρ h) (fun xs h1 => Sat (F xs h1) Q E) E) : Sat (mCall F r ρ h) Q E := Sat.bnd q
def unB (x : D) (h1 : MH) : R Bool := match x with
  | .bl b => .ok b h1
  | _ => .bad
theorem w_B (q : Sat (a ρ h) (fun x h1 => Sat (unB x h1) QB E) E) : Sat (mB a ρ h) QB E := by
  refine Sat.bnd (q.monoE (fun x _ z => ?_) fun _ _ _ z => z)
  cases x <;> exact z
theorem w_unB {b : Bool} (q : QB b h) : Sat (unB (.bl b) h) QB E := w_ok q
theorem br_if {p : Prop} [Decidable p] {α : Type} {x y : R α} {Q : α → MH → Prop} (q : Br p (Sat x Q E) (Sat y Q E)) : Sat (if p then x else y) Q E := by
  split
  · rename_i hp; exact q.1 hp
  · rename_i hp; exact q.2 hp
theorem w_and (q : Sat (ta ρ h) (fun x h1 => Br (x = true) (Sat (tb ρ h1) QB E) (QB false h1)) E) : Sat (mAnd ta tb ρ h) QB E := Sat.bnd (q.monoE (fun _ _ z => br_if ⟨z.1, fun n => w_ok (z.2 n)⟩) fun _ _ _ z => z)
theorem w_or (q : Sat (ta ρ h) (fun x h1 => Br (x = true) (QB true h1) (Sat (tb ρ h1) QB E)) E) : Sat (mOr ta tb ρ h) QB E := Sat.bnd (q.monoE (fun _ _ z => br_if ⟨fun n => w_ok (z.1 n), z.2⟩) fun _ _ _ z => z)
theorem w_not (q : Sat (ta ρ h) (fun x h1 => QB (!x) h1) E) : Sat (mNot ta ρ h) QB E := Sat.bnd (q.monoE (fun _ _ z => w_ok z) fun _ _ _ z => z)
def andK (b : ME) (ρ : Slots) (x : D) (h1 : MH) : R D := match x with
  | .bl true => b ρ h1
  | .bl false => .ok (.bl false) h1
  | _ => .bad
def orK (b : ME) (ρ : Slots) (x : D) (h1 : MH) : R D := match x with
  | .bl false => b ρ h1
  | .bl true => .ok (.bl true) h1
  | _ => .bad
def notK (x : D) (h1 : MH) : R D := match x with
  | .bl b => .ok (.bl (!b)) h1
  | _ => .bad
theorem w_andV (q : Sat (a ρ h) (fun x h1 => Sat (andK b ρ x h1) Q E) E) : Sat (mAndV a b ρ h) Q E := Sat.bnd q
theorem w_orV (q : Sat (a ρ h) (fun x h1 => Sat (orK b ρ x h1) Q E) E) : Sat (mOrV a b ρ h) Q E := Sat.bnd q
theorem w_notV (q : Sat (a ρ h) (fun x h1 => Sat (notK x h1) Q E) E) : Sat (mNotV a ρ h) Q E := Sat.bnd q
theorem w_andK {k : Bool} (q : Br (k = true) (Sat (b ρ h) Q E) (Q (.bl false) h)) : Sat (andK b ρ (.bl k) h) Q E := by
  cases k
  · exact w_ok (q.2 (by decide))
  · exact q.1 rfl
theorem w_orK {k : Bool} (q : Br (k = true) (Q (.bl true) h) (Sat (b ρ h) Q E)) : Sat (orK b ρ (.bl k) h) Q E := by
  cases k
  · exact q.2 (by decide)
  · exact w_ok (q.1 rfl)
theorem w_notK {k : Bool} (q : Q (.bl (!k)) h) : Sat (notK (.bl k) h) Q E := w_ok q
theorem w_ifE (q : Sat (ta ρ h) (fun x h1 => Br (x = true) (Sat (a ρ h1) Q E) (Sat (b ρ h1) Q E)) E) : Sat (mIfE ta a b ρ h) Q E := Sat.bnd (q.monoE (fun _ _ z => br_if z) fun _ _ _ z => z)
theorem w_sl (q : Sat (a ρ h) (fun x h1 => Sat (lo ρ h1) (fun l h2 => Sat (hi ρ h2) (fun u h3 => Sat (dSl x l u h3) Q E) E) E) E) : Sat (mSl a lo hi ρ h) Q E :=
  Sat.bnd (q.monoE (fun _ _ z => Sat.bnd (z.monoE (fun _ _ z => Sat.bnd z) fun _ _ _ z => z)) fun _ _ _ z => z)
theorem w_no (q : QP none h) : Sat (mNo ρ h) QP E := w_ok q
def unI (x : D) (h1 : MH) : R (Option Int) := match x with
  | .int i => .ok (some i) h1
  | _ => .bad
theorem w_some (q : Sat (a ρ h) (fun x h1 => Sat (unI x h1) QP E) E) : Sat (mSome a ρ h) QP E := by
  refine Sat.bnd (q.monoE (fun x _ z => ?_) fun _ _ _ z => z)
  cases x <;> exact z
theorem w_unI {i : Int} (q : QP (some i) h) : Sat (unI (.int i) h) QP E := w_ok q
theorem w_meth {T : D → MH → Bool} {f : D → List D → MH → R D} (q : Sat (a ρ h) (fun x h1 => T x h1 = true ∧ Sat (r ρ h1) (fun xs h2 => Sat (f x xs h2) Q E) E) E) : Sat (mMeth T f a r ρ h) Q E :=
  Sat.bnd (q.monoE (fun _ _ z => by
    rw [if_pos z.1]
    exact Sat.bnd z.2) fun _ _ _ z => z)
theorem w_isi {T : String} (q : Sat (a ρ h) (fun x h1 => Sat (isi1 T (.ok x h1)) Q E) E) : Sat (mIsi T a ρ h) Q E := Sat.bnd q
def iterK (x : D) (h1 : MH) : R (List D × (MH → Bool)) := iter1 (.ok x h1)
theorem w_iter (q : Sat (a ρ h) (fun x h1 => Sat (iter1 (.ok x h1)) QI E) E) : Sat (mIter a ρ h) QI E := Sat.bnd q
theorem w_range1 (q : Sat (a ρ h) (fun x h1 => Sat (dR1 rangeD x h1) QI E) E) : Sat (mRange1 a ρ h) QI E := Sat.bnd q
theorem w_rev1 (q : Sat (a ρ h) (fun x h1 => Sat (dR1 revRangeD x h1) QI E) E) : Sat (mRev1 a ρ h) QI E := Sat.bnd q
theorem w_range2 (q : Sat (a ρ h) (fun x h1 => Sat (b ρ h1) (fun y h2 => Sat (dR2 rangeD x y h2) QI E) E) E) : Sat (mRange2 a b ρ h) QI E := Sat.bnd (q.monoE (fun _ _ z => Sat.bnd z) fun _ _ _ z => z)
theorem w_rev2 (q : Sat (a ρ h) (fun x h1 => Sat (b ρ h1) (fun y h2 => Sat (dR2 revRangeD x y h2) QI E) E) E) : Sat (mRev2 a b ρ h) QI E := Sat.bnd (q.monoE (fun _ _ z => Sat.bnd z) fun _ _ _ z => z)
theorem lim_in {j : Int} (h0 : -1000000000000000000 ≤ j) (h1 : j ≤ 1000000000000000000) : lim62 j = true := by unfold lim62; simp; omega
theorem w_dR1 {f : Int → Nat → List D} {j : Int} (l : -1000000000000000000 ≤ j ∧ j ≤ 1000000000000000000) (q : QI (f 0 j.toNat, yes) h) : Sat (dR1 f (.int j) h) QI E := by
  unfold dR1; simp only [lim_in l.1 l.2, if_true]; exact w_ok q
theorem w_dR2 {f : Int → Nat → List D} {i j : Int} (l : (-1000000000000000000 ≤ i ∧ i ≤ 1000000000000000000) ∧ -1000000000000000000 ≤ j ∧ j ≤ 1000000000000000000) (q : QI (f i (j - i).toNat, yes) h) : Sat (dR2 f (.int i) (.int j) h) QI E := by
  unfold dR2; simp only [lim_in l.1.1 l.1.2, lim_in l.2.1 l.2.2, true_and, if_true]; exact w_ok q
def zipK (x y : D) (h2 : MH) : R (List D × (MH → Bool)) := match x, y with
  | .ref i, .ref j => match getL h2 i, getL h2 j with
    | some l, some m => .ok (zipD l m, fun h' => decide (getL h' i = some l) && decide (getL h' j = some m)) h2
    | _, _ => .bad
  | _, _ => .bad
theorem w_zip (q : Sat (a ρ h) (fun x h1 => Sat (b ρ h1) (fun y h2 => Sat (zipK x y h2) QI E) E) E) : Sat (mZip a b ρ h) QI E := Sat.bnd (q.monoE (fun _ _ z => Sat.bnd z) fun _ _ _ z => z)
theorem w_lc {it : MI} {tg : MG} {vs : List Nat} (q : Sat (it ρ h) (fun a h1 => Sat (lcGo a.2 tg ta e h1.length (wipeD ρ vs) a.1 (h1 ++ [.lst []])) Q E) E) : Sat (mLc it tg ta e vs ρ h) Q E := Sat.bnd q
theorem w_revL (q : Sat (a ρ h) (fun x h1 => Sat (dRevL x h1) Q E) E) : Sat (mRevL a ρ h) Q E := Sat.bnd q
def lrK (x : D) (h : MH) : R D := match x with
  | .int j => lstRg 0 j h
  | _ => .bad
theorem w_listRg1 (q : Sat (a ρ h) (fun x h1 => Sat (lrK x h1) Q E) E) : Sat (mListRg1 a ρ h) Q E := Sat.bnd q
theorem w_tindex (q : Sat (a ρ h) (fun x h1 => ∃ l, x = .tup l ∧ Sat (b ρ h1) (fun y h2 => Sat (dTIdx x y h2) Q E) E) E) : Sat (mTIndex a b ρ h) Q E := Sat.bnd (q.monoE (fun _ _ z => by
  obtain ⟨l, rfl, z⟩ := z
  exact Sat.bnd z) fun _ _ _ z => z)
def chK (f' : D → D → MH → R D) (c : ME) (ρ : Slots) (y z : D) (h3 : MH) : R D := match z with
  | .bl true => (c ρ h3).bind fun w h4 => f' y w h4
  | .bl false => .ok (.bl false) h3
  | _ => .bad
theorem w_chain {f f' : D → D → MH → R D} (q : Sat (a ρ h) (fun x h1 => Sat (b ρ h1) (fun y h2 => Sat (f x y h2) (fun z h3 => Sat (chK f' c ρ y z h3) Q E) E) E) E) : Sat (mChain f f' a b c ρ h) Q E :=
  Sat.bnd (q.monoE (fun _ _ z => Sat.bnd (z.monoE (fun _ _ z => Sat.bnd z) fun _ _ _ z => z)) fun _ _ _ z => z)
theorem w_chK {f' : D → D → MH → R D} {y : D} {k : Bool} (q : Br (k = true) (Sat (c ρ h) (fun w h4 => Sat (f' y w h4) Q E) E) (Q (.bl false) h)) : Sat (chK f' c ρ y (.bl k) h) Q E := by
  cases k
  · exact w_ok (q.2 (by decide))
  · exact Sat.bnd (q.1 rfl)
end
section
variable {N : SP} {T : D → MH → Prop} {B C : SP} {E : SX} {ρ : Slots} {h : MH} {a b c e : ME} {r : MA} {ta tb : MT} {sa sb : MS}
theorem w_seq (q : OS (sa ρ h) (fun ρ' h' => OS (sb ρ' h') N T B C E) T B C E) : OS (mSeq sa sb ρ h) N T B C E := by
  unfold mSeq
  cases e : sa ρ h with
  | nx ρ' h' => rw [e, OS_nx] at q; exact q
  | rt d h' => rw [e, OS_rt] at q; exact w_rt q
  | bk ρ' h' => rw [e, OS_bk] at q; exact w_bk q
  | ct ρ' h' => rw [e, OS_ct] at q; exact w_ct q
  | exc x fs ρ' h' => rw [e, OS_exc] at q; simp only [OS_exc]; exact q
  | bad => rw [e, OS_bad] at q; exact q.elim
theorem w_skip (q : N ρ h) : OS (mSkip ρ h) N T B C E := w_nx q
theorem w_brk (q : B ρ h) : OS (mBreak ρ h) N T B C E := w_bk q
theorem w_cont (q : C ρ h) : OS (mCont ρ h) N T B C E := w_ct q
theorem w_retN (q : T .non h) : OS (mRetN ρ h) N T B C E := w_rt q
theorem w_drop (q : Sat (e ρ h) (fun _ h' => N ρ h') fun x fs h => E x fs ρ h) : OS (mDrop e ρ h) N T B C E := Sat.ot (q.monoE (fun _ _ z => w_nx z) fun _ _ _ z => z)
theorem w_ret (q : Sat (e ρ h) T fun x fs h => E x fs ρ h) : OS (mRet e ρ h) N T B C E := Sat.ot (q.monoE (fun _ _ z => w_rt z) fun _ _ _ z => z)
theorem w_if (q : Sat (ta ρ h) (fun x h1 => Br (x = true) (OS (sa ρ h1) N T B C E) (OS (sb ρ h1) N T B C E)) fun x fs h => E x fs ρ h) : OS (mIf ta sa sb ρ h) N T B C E := Sat.ot (q.monoE (fun _ _ z => by
  split
  · rename_i hp; exact z.1 hp
  · rename_i hp; exact z.2 hp) fun _ _ _ z => z)
theorem w_asg {i : Nat} (q : Sat (e ρ h) (fun d h' => N (ρ.set i (some d)) h') fun x fs h => E x fs ρ h) : OS (mAsg i e ρ h) N T B C E := Sat.ot (q.monoE (fun _ _ z => w_nx z) fun _ _ _ z => z)
theorem w_asgT {m : MG} (q : Sat (e ρ h) (fun d h' => ∃ ρ', m d ρ = some ρ' ∧ N ρ' h') fun x fs h => E x fs ρ h) : OS (mAsgT m e ρ h) N T B C E := Sat.ot (q.monoE (fun _ _ z => by
  obtain ⟨ρ', e1, z⟩ := z
  rw [e1]
  exact w_nx z) fun _ _ _ z => z)
theorem w_setIx (q : Sat (e ρ h) (fun d h1 => Sat (a ρ h1) (fun x h2 => Sat (b ρ h2) (fun y h3 => Sat (dSet x y d h3) (fun _ h4 => N ρ h4) fun x fs h => E x fs ρ h) fun x fs h => E x fs ρ h) fun x fs h => E x fs ρ h) fun x fs h => E x fs ρ h) : OS (mSetIx a b e ρ h) N T B C E :=
  Sat.ot (q.monoE (fun _ _ z => Sat.ot (z.monoE (fun _ _ z => Sat.ot (z.monoE (fun _ _ z => Sat.ot (z.monoE (fun _ _ z => w_nx z) fun _ _ _ z => z)) fun _ _ _ z => z)) fun _ _ _ z => z)) fun _ _ _ z => z)
theorem w_for {it : MI} {tg : MG} (q : Sat (it ρ h) (fun x h1 => OS (forGo x.2 tg sa x.1 ρ h1) N T B C E) fun x fs h => E x fs ρ h) : OS (mFor it tg sa ρ h) N T B C E := Sat.ot q
theorem w_fun {n M : Nat} {ds : List D} {Q : D → MH → Prop} {E : XE} (q : OS (sa (startD n M ds) h) (fun _ h' => Q .non h') Q noS noS fun x fs _ h => E x fs h) (hl : ds.length = n := by rfl) : Sat (mFun n M sa ds h) Q E := by
  unfold mFun
  rw [if_pos hl]
  cases e : sa (startD n M ds) h with
  | nx ρ' h' => rw [e, OS_nx] at q; exact w_ok q
  | rt d h' => rw [e, OS_rt] at q; exact w_ok q
  | bk ρ' h' => rw [e, OS_bk] at q; exact q.elim
  | ct ρ' h' => rw [e, OS_ct] at q; exact q.elim
  | exc x fs ρ' h' => rw [e, OS_exc] at q; simp only [Sat_exc]; exact q
  | bad => rw [e, OS_bad] at q; exact q.elim
/-- a loop: what holds between two turns -/
theorem w_loop {gd : MH → Bool} {tg : MG} {body : MS} (I : Nat → SP) : ∀ {items : List D} {k : Nat} {ρ : Slots} {h : MH}, I k ρ h →
    (∀ i ρ h, I i ρ h → gd h = true) →
    (∀ i d ρ h, items[i]? = some d → I (k + i) ρ h → ∃ ρ1, tg d ρ = some ρ1 ∧ OS (body ρ1 h) (I (k + i + 1)) T N (I (k + i + 1)) E) →
    (∀ ρ h, I (k + items.length) ρ h → N ρ h) → OS (forGo gd tg body items ρ h) N T B C E
  | [], k, ρ, h, h0, hg, hs, hn => by
    rw [forGo, if_pos (hg k ρ h h0)]
    exact w_nx (hn _ _ h0)
  | d :: ds, k, ρ, h, h0, hg, hs, hn => by
    obtain ⟨ρ1, e1, q⟩ := hs 0 d ρ h rfl h0
    have go : ∀ ρ' h', I (k + 0 + 1) ρ' h' → OS (forGo gd tg body ds ρ' h') N T B C E := fun ρ' h' i => w_loop I (k := k + 1) (ρ := ρ') (h := h') i hg (fun i d' ρ h hd hi => by
      have e3 : k + (i + 1) = k + 1 + i := by omega
      have := hs (i + 1) d' ρ h (by simpa using hd) (by rw [e3]; exact hi)
      rw [e3] at this
      exact this) (fun ρ h hi => hn ρ h (by rw [List.length_cons]; have e3 : k + (ds.length + 1) = k + 1 + ds.length := by omega
                                            rw [e3]; exact hi))
    rw [forGo, if_pos (hg k ρ h h0), e1]
    cases e2 : body ρ1 h with
    | nx ρ' h' => rw [e2, OS_nx] at q; simp only [e2]; exact go ρ' h' q
    | ct ρ' h' => rw [e2, OS_ct] at q; simp only [e2]; exact go ρ' h' q
    | bk ρ' h' => rw [e2, OS_bk] at q; simp only [e2]; exact w_nx q
    | rt d h' => rw [e2, OS_rt] at q; simp only [e2]; exact w_rt q
    | exc x fs ρ' h' => rw [e2, OS_exc] at q; simp only [e2, OS_exc]; exact q
    | bad => rw [e2, OS_bad] at q; exact q.elim
theorem w_loop0 {gd : MH → Bool} {tg : MG} {body : MS} (I : Nat → SP) {items : List D} {ρ : Slots} {h : MH} (h0 : I 0 ρ h)
    (hg : ∀ i ρ h, I i ρ h → gd h = true)
    (hs : ∀ i d ρ h, items[i]? = some d → I i ρ h → ∃ ρ1, tg d ρ = some ρ1 ∧ OS (body ρ1 h) (I (i + 1)) T N (I (i + 1)) E)
    (hn : ∀ ρ h, I items.length ρ h → N ρ h) : OS (forGo gd tg body items ρ h) N T B C E :=
  w_loop I (k := 0) h0 hg (fun i d ρ h hd hi => by rw [Nat.zero_add] at hi ⊢; exact hs i d ρ h hd hi) (fun ρ h hi => hn ρ h (by rw [Nat.zero_add] at hi; exact hi))
/-- a comprehension: what holds between two turns, of the list so far -/
theorem w_comp {gd : MH → Bool} {tg : MG} {tt : MT} {te : ME} {c : Nat} {ρ : Slots} {Q : D → MH → Prop} {E : XE} (I : Nat → List D → MH → Prop) : ∀ {items : List D} {k : Nat} {acc : List D} {h : MH}, I k acc h → h[c]? = some (.lst acc) → acc.length + items.length ≤ 1000000 →
    (∀ i acc h, I i acc h → gd h = true) →
    (∀ i d acc h, items[i]? = some d → I (k + i) acc h → h[c]? = some (.lst acc) → ∃ ρ1, tg d ρ = some ρ1 ∧ ∃ b h1, tt ρ1 h = .ok b h1 ∧ (b = false → h1[c]? = some (.lst acc) ∧ I (k + i + 1) acc h1) ∧ (b = true → Sat (te ρ1 h1) (fun y h2 => h2[c]? = some (.lst acc) ∧ I (k + i + 1) (acc ++ [y]) (h2.set c (.lst (acc ++ [y])))) noX)) →
    (∀ acc h, I (k + items.length) acc h → h[c]? = some (.lst acc) → Q (.ref c) h) → Sat (lcGo gd tg tt te c ρ items h) Q E
  | [], k, acc, h, h0, hc, hl, hg, hs, hn => by
    rw [lcGo, if_pos (hg k acc h h0)]
    exact w_ok (hn _ _ h0 hc)
  | d :: ds, k, acc, h, h0, hc, hl, hg, hs, hn => by
    obtain ⟨ρ1, e1, b, h1, e2, q1, q2⟩ := hs 0 d acc h rfl h0 hc
    rw [List.length_cons] at hl
    have go : ∀ acc' h', acc'.length ≤ acc.length + 1 → I (k + 0 + 1) acc' h' → h'[c]? = some (.lst acc') → Sat (lcGo gd tg tt te c ρ ds h') Q E := fun acc' h' l i hc' => w_comp I (k := k + 1) (acc := acc') (h := h') i hc' (by omega) hg (fun i d' acc h hd hi hc => by
      have e3 : k + (i + 1) = k + 1 + i := by omega
      have := hs (i + 1) d' acc h (by simpa using hd) (by rw [e3]; exact hi) hc
      rw [e3] at this
      exact this) (fun acc h hi => hn acc h (by rw [List.length_cons]; have e3 : k + (ds.length + 1) = k + 1 + ds.length := by omega
                                                rw [e3]; exact hi))
    rw [lcGo, if_pos (hg k acc h h0), e1]
    cases b with
    | false =>
      simp only [e2]
      obtain ⟨q3, q4⟩ := q1 rfl
      exact go _ _ (by omega) q4 q3
    | true =>
      simp only [e2]
      obtain ⟨y, h2, e3, q3, q4⟩ := (q2 rfl).get
      simp only [e3, q3]
      rw [if_pos (by omega)]
      refine go _ _ (by simp) q4 ?_
      have : c < h2.length := (List.getElem?_eq_some_iff.mp q3).1
      simp [this]
/-- a comprehension whose parts change nothing -/
theorem w_compP {gd : MH → Bool} {tg : MG} {te : ME} {ρ : Slots} {Q : D → MH → Prop} {E : XE} {h0 : MH} (P : Nat → D → Prop) {items : List D} (hl : items.length ≤ 1000000)
    (hg : ∀ t, gd (h0 ++ t) = true)
    (hs : ∀ i d t, items[i]? = some d → ∃ ρ1, tg d ρ = some ρ1 ∧ Sat (te ρ1 (h0 ++ t)) (fun y h2 => h2 = h0 ++ t ∧ P i y) noX)
    (hn : ∀ ys : List D, ys.length = items.length → (∀ i y, ys[i]? = some y → P i y) → Q (.ref h0.length) (h0 ++ [.lst ys])) : Sat (lcGo gd tg mYes te h0.length ρ items (h0 ++ [.lst []])) Q E := by
  refine w_comp (fun k acc h => acc.length = k ∧ h = h0 ++ [.lst acc] ∧ ∀ i y, acc[i]? = some y → P i y) ⟨rfl, rfl, fun i y e => by simp at e⟩ (by simp) (by simpa using hl) (fun i acc h hi => by rw [hi.2.1]; exact hg _) ?_ ?_
  · rintro i d acc h hd ⟨ha, rfl, hp⟩ hc
    obtain ⟨ρ1, e1, s⟩ := hs i d [.lst acc] hd
    refine ⟨ρ1, e1, true, _, rfl, (fun z => Bool.noConfusion z), fun _ => s.mono ?_⟩
    rintro y h2 ⟨rfl, hy⟩
    refine ⟨hc, by simp [ha], by simp, fun j z hz => ?_⟩
    rcases Nat.lt_or_ge j acc.length with q | q
    · rw [List.getElem?_append_left q] at hz
      exact hp j z hz
    · rw [List.getElem?_append_right q] at hz
      have : j - acc.length = 0 := by
        have := (List.getElem?_eq_some_iff.mp hz).1
        simp at this; omega
      rw [this] at hz
      simp at hz
      subst hz
      have : j = i := by simp at ha; omega
      subst this
      exact hy
  · rintro acc h ⟨ha, rfl, hp⟩ hc
    exact hn acc (by simpa using ha) hp
end
/-! leaves -/
section
variable {Q : D → MH → Prop} {E : XE} {h : MH} {i j : Int} {x y : Str} {l m : List D}
theorem w_mod (c : 0 < j) (q : Q (.int (i % j)) h) : Sat (dMod (.int i) (.int j) h) Q E := w_eq (by rw [dMod_int, if_pos c]) q
theorem w_fdiv (c : 0 < j ∧ j < 18446744073709551616) (q : Q (.int (i / j)) h) : Sat (dFdiv (.int i) (.int j) h) Q E := w_eq (dFdiv_small i j h c.1 c.2) q
theorem w_mulS (c : (-18446744073709551616 < i ∧ i < 18446744073709551616) ∧ -18446744073709551616 < j ∧ j < 18446744073709551616) (q : Q (.int (i * j)) h) : Sat (dMul (.int i) (.int j) h) Q E := w_eq (dMul_s i j h c.1.1 c.1.2 c.2.1 c.2.2) q
theorem w_mulB {a b : Nat} (ha : Builtin.Int.intBits i ≤ a) (hb : Builtin.Int.intBits j ≤ b) (hab : a + b ≤ 134217728) (q : Q (.int (i * j)) h) : Sat (dMul (.int i) (.int j) h) Q E := w_eq (dMul_bits i j h ha hb hab) q
theorem w_addS (c : x.length + y.length ≤ 1000000) (q : Q (.str (x ++ y)) h) : Sat (dAdd (.str x) (.str y) h) Q E := w_eq (by rw [dAdd_str, if_pos c]) q
theorem w_addT (c : l.length + m.length ≤ 1000000) (q : Q (.tup (l ++ m)) h) : Sat (dAdd (.tup l) (.tup m) h) Q E := w_eq (by rw [dAdd_tup, if_pos c]) q
theorem w_pow {n : Nat} (c : n ≤ 1000000 ∧ i.natAbs < 2 ^ 64) (q : Q (.int (i ^ n)) h) : Sat (dPow (.int i) (.int (n : Int)) h) Q E := w_eq (by rw [dPow_int, if_pos (by omega), Int.toNat_natCast]) q
theorem w_lenS (c : x.length ≤ 1000000) (q : Q (.int x.length) h) : Sat (dLen [.str x] h) Q E := w_eq (by rw [dLen_str, if_pos c]) q
theorem w_lenL {i : Nat} (c : getL h i = some l) (q : Q (.int l.length) h) : Sat (dLen [.ref i] h) Q E := w_eq (dLen_ref c) q
theorem w_slS {lo hi : Option Int} (c : x.length ≤ 1000000) (q : Q (.str (cutS x lo hi)) h) : Sat (dSl (.str x) lo hi h) Q E := w_eq (by rw [dSl_str, if_pos c]) q
theorem w_ixL {k : Nat} {d : D} (c : getL h k = some l) (e : atI l i = some d) (q : Q d h) : Sat (dIx (.ref k) (.int i) h) Q E := w_eq (dIx_ref c e) q
theorem w_ixT {d : D} (e : atI l i = some d) (q : Q d h) : Sat (dIx (.tup l) (.int i) h) Q E := w_eq (dIx_tup h e) q
theorem w_ixS {c : Nat} (hz : x.length ≤ 1000000) (e : atI x.cps.toList i = some c) (q : Q (.str ⟨#[c]⟩) h) : Sat (dIx (.str x) (.int i) h) Q E := w_eq (dIx_str h hz e) q
theorem getL_of {i : Nat} (e : h[i]? = some (.lst l)) : getL h i = some l := by unfold getL; rw [e]
theorem w_app {i : Nat} {d : D} (e : h[i]? = some (.lst l)) (c : l.length < 1000000) (q : Q .non (h.set i (.lst (l ++ [d])))) : Sat (dAppend (.ref i) [d] h) Q E := w_eq (by simp only [dAppend, e, if_pos c]) q
theorem w_listL {i : Nat} (c : getL h i = some l) (q : Q (.ref h.length) (h ++ [.lst l])) : Sat (dList [.ref i] h) Q E := w_eq (by simp [dList, seqOf, c]) q
theorem w_tupL {i : Nat} (c : getL h i = some l) (q : Q (.tup l) h) : Sat (dTuple [.ref i] h) Q E := w_eq (by simp [dTuple, seqOf, c]) q
theorem w_eqK {a b : D} {k : Bool} (e : eqD a b h = some k) (q : Q (.bl k) h) : Sat (dEq a b h) Q E := w_eq (dEq_of e) q
theorem w_set {QU : Unit → MH → Prop} {i : Nat} {k : Int} {n : Nat} {d : D} (e : h[i]? = some (.lst l)) (c : ixN l.length k = some n) (q : QU () (h.set i (.lst (l.set n d)))) : Sat (dSet (.ref i) (.int k) d h) QU E := w_eq (by simp only [dSet, e, c]) q
end
end Mi

/-! Lists of one's own: h goes on from h0, and the listed cells behind it are known. -/
namespace Mi
open PySem L2
abbrev LL := List (Nat × List D)
structure Own (h0 h : MH) (L : LL) : Prop where
  pre : h0 <+: h
  cell : ∀ p ∈ L, h0.length ≤ p.1 ∧ h[p.1]? = some (.lst p.2)
  nd : (L.map (·.1)).Nodup
section
variable {h0 h h' h1 : MH} {L M : LL} {i : Nat} {l l' : List D}
theorem Own.nil (h : MH) : Own h h [] := ⟨List.prefix_rfl, fun p hp => by simp at hp, List.nodup_nil⟩
theorem pre_get (p : h <+: h') {o : MO} (e : h[i]? = some o) : h'[i]? = some o := by
  obtain ⟨t, rfl⟩ := p
  rw [List.getElem?_append_left (List.getElem?_eq_some_iff.mp e).1]
  exact e
theorem pre_getL (p : h <+: h') (e : getL h i = some l) : getL h' i = some l := by
  obtain ⟨t, rfl⟩ := p
  have hi : i < h.length := by
    cases q : h[i]? with
    | none => simp [getL, q] at e
    | some o => exact (List.getElem?_eq_some_iff.mp q).1
  unfold getL
  rw [List.getElem?_append_left hi]
  exact e
theorem Own.getL (o : Own h0 h L) (e : getL h0 i = some l) : getL h i = some l := pre_getL o.pre e
theorem Own.ext (o : Own h0 h L) (p : h <+: h') : Own h0 h' L := ⟨o.pre.trans p, fun q hq => ⟨(o.cell q hq).1, pre_get p (o.cell q hq).2⟩, o.nd⟩
theorem Own.lt (o : Own h0 h L) {p : Nat × List D} (hp : p ∈ L) : p.1 < h.length := (List.getElem?_eq_some_iff.mp (o.cell p hp).2).1
theorem Own.add (o : Own h0 h L) (hi : h0.length ≤ i) (e : h[i]? = some (.lst l)) (n : ∀ p ∈ L, p.1 ≠ i) : Own h0 h ((i, l) :: L) :=
  ⟨o.pre, fun q hq => by
    rcases List.mem_cons.mp hq with rfl | hq
    · exact ⟨hi, e⟩
    · exact o.cell q hq, List.nodup_cons.mpr ⟨fun hm => by
      obtain ⟨p, hp, rfl⟩ := List.mem_map.mp hm
      exact n p hp rfl, o.nd⟩⟩
theorem Own.alloc (o : Own h0 h L) (xs : List D) : Own h0 (h ++ [.lst xs]) ((h.length, xs) :: L) :=
  (o.ext (List.prefix_append _ _)).add (o.pre.length_le) (by simp) fun p hp => Nat.ne_of_lt (o.lt hp)
theorem Own.at (o : Own h0 h L) (n : Nat) (e : L[n]? = some (i, l)) : h[i]? = some (.lst l) := (o.cell _ (List.mem_of_getElem? e)).2
theorem Own.atL (o : Own h0 h L) (n : Nat) (e : L[n]? = some (i, l)) : Mi.getL h i = some l := getL_of (o.at n e)
theorem Own.isL (o : Own h0 h L) (n : Nat) (e : L[n]? = some (i, l)) : isListD (.ref i) h = true := by rw [isListD_ref, o.atL n e]; rfl
theorem Own.setAt (o : Own h0 h L) (n : Nat) (e : L[n]? = some (i, l)) (l' : List D) : Own h0 (h.set i (.lst l')) (L.set n (i, l')) := by
  have hn : n < L.length := (List.getElem?_eq_some_iff.mp e).1
  have en : L[n] = (i, l) := (List.getElem?_eq_some_iff.mp e).2
  have hi : i < h.length := o.lt (List.mem_of_getElem? e)
  have h0i : h0.length ≤ i := (o.cell _ (List.mem_of_getElem? e)).1
  have em : (L.set n (i, l')).map (·.1) = L.map (·.1) := by
    rw [List.map_set]
    refine List.ext_getElem (by simp) fun k h1 h2 => ?_
    rw [List.getElem_set]
    split
    · rename_i q
      subst q
      rw [List.getElem_map, en]
    · rfl
  refine ⟨?_, fun q hq => ?_, by rw [em]; exact o.nd⟩
  · obtain ⟨t, rfl⟩ := o.pre
    rw [List.set_append_right _ _ h0i]
    exact List.prefix_append _ _
  · obtain ⟨k, hk, e2⟩ := List.mem_iff_getElem.mp hq
    rw [List.getElem_set] at e2
    split at e2
    · subst e2
      exact ⟨h0i, by simp [hi]⟩
    · rename_i hne
      have hk' : k < L.length := by simpa using hk
      have hm : q ∈ L := e2 ▸ List.getElem_mem hk'
      refine ⟨(o.cell q hm).1, ?_⟩
      rw [List.getElem?_set_ne]
      · exact (o.cell q hm).2
      · intro z
        have h1 : (L.map (·.1))[n]'(by simpa using hn) = (L.map (·.1))[k]'(by simpa using hk') := by
          rw [List.getElem_map, List.getElem_map, en, e2]
          exact z
        exact hne ((List.getElem_inj o.nd).mp h1)
theorem Own.trans (o : Own h0 h L) (o' : Own h h' M) : Own h0 h' (M ++ L) := by
  have o2 := o.ext o'.pre
  refine ⟨o2.pre, fun q hq => ?_, ?_⟩
  · rcases List.mem_append.mp hq with hq | hq
    · exact ⟨Nat.le_trans o.pre.length_le (o'.cell q hq).1, (o'.cell q hq).2⟩
    · exact o2.cell q hq
  · rw [List.map_append, List.nodup_append]
    refine ⟨o'.nd, o.nd, fun a ha b hb => ?_⟩
    obtain ⟨p, hp, rfl⟩ := List.mem_map.mp ha
    obtain ⟨q, hq, rfl⟩ := List.mem_map.mp hb
    have h1 := (o'.cell p hp).1
    have h2 := o.lt hq
    omega
theorem Own.sub (o : Own h0 h L) (s : M.Sublist L) : Own h0 h M := ⟨o.pre, fun p hp => o.cell p (s.subset hp), (s.map _).nodup o.nd⟩
theorem Own.tail {p : Nat × List D} (o : Own h0 h (p :: L)) : Own h0 h L := o.sub (List.sublist_cons_self _ _)
theorem Own.none (o : Own h0 h L) : Own h0 h [] := o.sub (List.nil_sublist _)
theorem Own.head {p : Nat × List D} (o : Own h0 h (p :: L)) : Own h0 h [p] := o.sub (List.Sublist.cons_cons _ (List.nil_sublist _))
/-! rules -/
variable {Q : D → MH → Prop} {E : XE}
theorem o_new {xs : List D} (o : Own h0 h L) (l : xs.length ≤ 1000000) (q : ∀ i h', Own h0 h' ((i, xs) :: L) → Q (.ref i) h') : Sat (toLst xs h) Q E := w_toLst l (q _ _ (o.alloc xs))
theorem o_app {d : D} (o : Own h0 h L) (n : Nat) (e : L[n]? = some (i, l)) (c : l.length < 1000000) (q : ∀ h', Own h0 h' (L.set n (i, l ++ [d])) → Q .non h') : Sat (dAppend (.ref i) [d] h) Q E := w_app (o.at n e) c (q _ (o.setAt n e _))
theorem o_list (o : Own h0 h L) (hl : Mi.getL h i = some l) (q : ∀ i h', Own h0 h' ((i, l) :: L) → Q (.ref i) h') : Sat (dList [.ref i] h) Q E := w_listL hl (q _ _ (o.alloc _))
theorem o_set {QU : Unit → MH → Prop} {k : Int} {m : Nat} {d : D} (o : Own h0 h L) (n : Nat) (e : L[n]? = some (i, l)) (c : ixN l.length k = some m) (q : ∀ h', Own h0 h' (L.set n (i, l.set m d)) → QU () h') : Sat (dSet (.ref i) (.int k) d h) QU E := w_set (o.at n e) c (q _ (o.setAt n e _))
/-- a comprehension whose parts change nothing -/
theorem o_comp {gd : MH → Bool} {tg : MG} {te : ME} {ρ : Slots} (P : Nat → D → Prop) {items : List D} (o : Own h0 h L) (hl : items.length ≤ 1000000)
    (hg : ∀ h', h <+: h' → gd h' = true)
    (hs : ∀ i d h', items[i]? = some d → h <+: h' → ∃ ρ1, tg d ρ = some ρ1 ∧ Sat (te ρ1 h') (fun y h2 => h2 = h' ∧ P i y) noX)
    (hn : ∀ ys : List D, ys.length = items.length → (∀ i y, ys[i]? = some y → P i y) → ∀ i h', Own h0 h' ((i, ys) :: L) → Q (.ref i) h') : Sat (lcGo gd tg mYes te h.length ρ items (h ++ [.lst []])) Q E :=
  w_compP P hl (fun t => hg _ (List.prefix_append _ _)) (fun i d t hd => hs i d _ hd (List.prefix_append _ _)) fun ys hy hp => hn ys hy hp _ _ (o.alloc ys)
end
end Mi

/-! Exceptions: raised with a field or none, caught, kept in a name, asked for their class and field. -/
namespace Mi
open PySem L2 PySem.Spec PyProof.Rows
section
variable {X : Cx} {pins : List (Addr × Obj)} {σ : L2.St} {H : Hp} {s : Shared}
end
/-- what a clause wishes that keeps the exception: slot i is the clause's name, slot j the one that keeps it -/
def wKeep (K : PySem.W.Frag) (c : Value) (i j : Nat) (Wo : WX) (D : Ends) : WX := fun cls d σ H =>
  ∃ b C, cls = .ref C ∧ PySem.W.exmOne K cls c = some b ∧ (b = true → ∀ p, H p = none → D.nx (((σ.set i (some (.ref p))).set j (some (.ref p))).set i none) (upd H p (XOk C d p))) ∧ (b = false → Wo cls d σ H)
section
variable {X : Cx} {x n r : Str} {c : Value} {i j : Nat} {body : List Stmt} {qn q0 q1 q2 q3 q4 : Pos} {tb : WX → TS} {Wo : WX}
end

/-! ### what a class of exceptions must say -/
structure ClsX (K : PySem.W.Frag) (C : Addr) : Prop where
  cl : (PySem.W.clsIn K C).isSome = true
  ga : PySem.W.findIn K (.ref C) "__getattribute__" = some (some (.builtin "BaseException.__getattribute__"))
  gg : PySem.W.findIn K (.ref C) "__getattr__" = some none
  sb : PySem.W.subIn K (.ref C) (.type "BaseException") = some true
  ca : PySem.W.findIn K (.ref C) "__class__" = some (some (.builtin "object.__class__"))
  cg : PySem.W.specialIn K (.builtin "object.__class__") "__get__" = some (some (.builtin "getset_descriptor.__get__"))
  ct : PySem.W.takesIn K (.builtin "object.__class__") = some true
  mo : PySem.W.mroIn K C (.type "object") = some true
  hd : PySem.W.hasDictIn K C = true
  ty : PySem.W.typeIn K (.ref C) = some (.type "type")
  kp : PySem.W.keepIn K (.ref C) = true
def clsXB (K : PySem.W.Frag) (C : Addr) : Bool :=
  (PySem.W.clsIn K C).isSome && (decide (PySem.W.findIn K (.ref C) "__getattribute__" = some (some (.builtin "BaseException.__getattribute__"))) && (decide (PySem.W.findIn K (.ref C) "__getattr__" = some none) &&
  (decide (PySem.W.subIn K (.ref C) (.type "BaseException") = some true) && (decide (PySem.W.findIn K (.ref C) "__class__" = some (some (.builtin "object.__class__"))) &&
  (decide (PySem.W.specialIn K (.builtin "object.__class__") "__get__" = some (some (.builtin "getset_descriptor.__get__"))) && (decide (PySem.W.takesIn K (.builtin "object.__class__") = some true) &&
  (decide (PySem.W.mroIn K C (.type "object") = some true) && (PySem.W.hasDictIn K C && (decide (PySem.W.typeIn K (.ref C) = some (.type "type")) && PySem.W.keepIn K (.ref C))))))))))
/-- the classes in a table, each with a truth -/
def TabX (K : PySem.W.Frag) (l : List (Str × Bool)) (f : Addr → Bool → Prop) : Prop := ∀ c b C, l.lookup c = some b → cmOf K c = some C → ClsX K C ∧ f C b
def tabXB (K : PySem.W.Frag) (l : List (Str × Bool)) (f : Addr → Bool → Bool) : Bool := l.all fun p => match cmOf K p.1 with
  | some C => clsXB K C && f C p.2
  | none => false
/-! ### caught and kept -/
def xoOf (c : Str) : List (Str × D) → Option D
  | [] => some (.xo c (Str.ofString "") .non)
  | [(f, v)] => some (.xo c f v)
  | _ => none
def mTryK (tab : List (Str × Bool)) (i j : Nat) (b : MS) : MS := fun ρ h => match b ρ h with
  | .exc c fs ρ1 h1 => match tab.lookup c with
    | some true => match xoOf c fs with
      | some d => .nx (((ρ1.set i none).set j (some d)).set i none) h1
      | none => .bad
    | some false => .exc c fs ρ1 h1
    | none => .bad
  | o => o
section
variable {K : PySem.W.Frag} {H : Hp} {μ : List Addr} {h : MH}
end

section
variable {X : Cx} {x n r : Str} {c : Value} {i j : Nat} {body : List Stmt} {qn q0 q1 q2 q3 q4 : Pos} {mb : MS} {W : WX} {tab : List (Str × Bool)}
end

/-! ### the field of a kept exception -/
def tXk (K : PySem.W.Frag) (f : Str) (te : TE) : TE := fun σ H Q => te σ H fun x H1 => ∃ (p C dd : Addr) (fv : List (Str × V)) (v : V), x = .ref p ∧ H1 p = some (XOk C (some dd) p) ∧ H1 dd = some (.xd fv) ∧ fv.lookup f = some v ∧ ClsX K C ∧ PySem.W.findIn K (.ref C) f = some none ∧ Q v H1
def mXf (cs : List Str) (f : Str) (a : ME) : ME := fun ρ h => (a ρ h).bind fun x h1 => match x with
  | .xo c f' v => if c ∈ cs ∧ f' = f ∧ f ≠ Str.ofString "" then .ok v h1 else .bad
  | _ => .bad
/-! ### isinstance of a kept exception -/
def XAt (H : Hp) (p C : Addr) : Prop := ∃ d, H p = some (XOk C d p) ∧ (d = none ∨ ∃ dd fv, d = some dd ∧ H dd = some (.xd fv))
def Det (c : V) (u : Value) : Prop := ∀ w, RelV c w → w = u
def rIsXk (K : PySem.W.Frag) : List V → Hp → VK → Prop := fun xs H Q => ∃ (p C : Addr) (c : V) (cv : Value) (b : Bool), xs = [.ref p, c] ∧ XAt H p C ∧ Det c cv ∧ ClsX K C ∧ PySem.W.kitOne K (.ref C) cv = some b ∧ Q (.bl b) H
def rIsXt (K : PySem.W.Frag) : List V → Hp → VK → Prop := fun xs H Q => ∃ (p C tp : Addr) (o : Obj) (cs : List V) (cv : List Value) (b : Bool), xs = [.ref p, .ref tp] ∧ XAt H p C ∧ H tp = some (.frz o (.tup cs)) ∧ Paired Det cs cv ∧ ClsX K C ∧ PySem.W.kitAny K (.ref C) cv = some b ∧ Q (.bl b) H
def mIsX (tab : List (Str × Bool)) (a : ME) : ME := fun ρ h => (a ρ h).bind fun x h1 => match x with
  | .xo c _ _ => match tab.lookup c with
    | some b => .ok (.bl b) h1
    | none => .bad
  | _ => .bad
section
variable {X : Cx} {W : WX} {a : Expr} {ma : ME} {p p2 p3 pos : Pos} {y : Str} {tab : List (Str × Bool)}
/-- names of classes -/
inductive NmX (X : Cx) : List Expr → List V → List Value → Prop
  | nil : NmX X [] [] []
  | cons {y : Str} {p : Pos} {D : Addr} {es : List Expr} {vs : List V} {us : List Value} : PE X (.Name y p) (tC (.ref D)) → starEach (.Name y p :: es) X.env = (false, eval (.Name y p) X.env) :: starEach es X.env → NmX X es vs us → NmX X (.Name y p :: es) (.ref D :: vs) (.ref D :: us)
theorem NmX.pa : ∀ {es : List Expr} {vs : List V} {us : List Value}, NmX X es vs us → PA X es (fun σ H Q => Q vs H) ∧ Paired Det vs us ∧ vs.length = es.length
  | _, _, _, .nil => ⟨pa_mono pa_nil fun _ _ _ q => q, .nil, rfl⟩
  | _, _, _, .cons a b c => by
    obtain ⟨h1, h2, h3⟩ := c.pa
    exact ⟨pa_mono (pa_cons a h1 b) fun _ _ _ q => q, .cons (fun w r => r) h2, by simp [h3]⟩
end
end Mi

/-! Raising: a class with one field, a class without. -/
namespace Mi
open PySem L2 PySem.Spec PyProof.Rows
def spInit (K : PySem.W.Frag) (f : Str) : Sp := fun vs H Q _ => ∃ (p C : Addr) (y : V), vs = [.ref p, y] ∧ OexC K C ∧ PySem.W.findIn K (.ref C) f = some none ∧ H p = some (exo p C none) ∧
  ∀ dx, H dx = none → dx ≠ p → Q .non (upd (upd H dx (exd dx [(f, y)])) p (exo p C (some dx)))
section
variable {P : Program} {w : World} {K : PySem.W.Frag} {mg : Str → Option Value} {base : Heap}
/-- a class with one field -/
def XI (P : Program) (w : World) (K : PySem.W.Frag) (mg : Str → Option Value) (base : Heap) (c f : Str) : Prop := ∃ (C fI : Addr) (fd : FuncData), cmOf K c = some C ∧ mg c = some (.ref C) ∧ OexC K C ∧
  PySem.W.findIn K (.ref C) "__init__" = some (some (.ref fI)) ∧ PySem.W.typeIn K (.ref fI) = some (.type "function") ∧ PySem.W.findIn K (.ref C) f = some none ∧ FnOk P w K mg base (L2.CX P w) 1 fI fd ["self", f] (spInit K f) ∧ Binds K fd ["self", f] []
/-- a class without -/
def X0 (K : PySem.W.Frag) (mg : Str → Option Value) (c : Str) : Prop := ∃ C : Addr, cmOf K c = some C ∧ mg c = some (.ref C) ∧ PySem.W.excIn K C [.type "ValueError", .type "Exception", .type "BaseException", .type "object"] "ValueError.__new__" = true ∧
  PySem.W.keepIn K (.ref C) = true ∧ PySem.W.subIn K (.ref C) (.type "BaseException") = some true ∧ PySem.W.typeIn K (.ref C) = some (.type "type")
end
def mRaise (c f : Str) (a : ME) : MS := fun ρ h => (a ρ h).out ρ fun d h1 => .exc c [(f, d)] ρ h1
def mRaise0 (c : Str) : MS := fun ρ h => .exc c [] ρ h
section
variable {X : Cx} {W : WX} {e : Expr} {me : ME} {c f m : Str} {p p2 pos pos2 : Pos} {j : Nat}
end
/-! ### tables by truths -/
section
variable {K : PySem.W.Frag} {h : Heap} {mg : Str → Option Value}
/-- the class y, as isinstance and except ask for it -/
def IsT (K : PySem.W.Frag) (mg : Str → Option Value) (y : Str) (l : List (Str × Bool)) : Prop := ∃ D, mg y = some (.ref D) ∧ TabX K l fun C b => PySem.W.kitOne K (.ref C) (.ref D) = some b
def ExT (K : PySem.W.Frag) (mg : Str → Option Value) (y : Str) (l : List (Str × Bool)) : Prop := ∃ D, mg y = some (.ref D) ∧ TabX K l fun C b => PySem.W.exmOne K (.ref C) (.ref D) = some b
def isTB (K : PySem.W.Frag) (y : Str) (l : List (Str × Bool)) : Bool := match cmOf K y with
  | some D => tabXB K l fun C b => PySem.W.kitOne K (.ref C) (.ref D) == some b
  | none => false
def exTB (K : PySem.W.Frag) (y : Str) (l : List (Str × Bool)) : Bool := match cmOf K y with
  | some D => tabXB K l fun C b => PySem.W.exmOne K (.ref C) (.ref D) == some b
  | none => false
/-- a built-in class -/
def IsB (K : PySem.W.Frag) (y : String) (l : List (Str × Bool)) : Prop := TabX K l fun C b => PySem.W.kitOne K (.ref C) (.type y) = some b
def isBB (K : PySem.W.Frag) (y : String) (l : List (Str × Bool)) : Bool := tabXB K l fun C b => PySem.W.kitOne K (.ref C) (.type y) == some b
/-- several classes -/
def refsOf (K : PySem.W.Frag) : List Str → Option (List Addr)
  | [] => some []
  | y :: r => match cmOf K y, refsOf K r with
    | some D, some l => some (D :: l)
    | _, _ => none
def IsTs (K : PySem.W.Frag) (mg : Str → Option Value) (ys : List Str) (l : List (Str × Bool)) : Prop := ∃ Ds : List Addr, Paired (fun y D => mg y = some (.ref D)) ys Ds ∧ TabX K l fun C b => PySem.W.kitAny K (.ref C) (Ds.map .ref) = some b
def isTsB (K : PySem.W.Frag) (ys : List Str) (l : List (Str × Bool)) : Bool := match refsOf K ys with
  | some Ds => tabXB K l fun C b => PySem.W.kitAny K (.ref C) (Ds.map .ref) == some b
  | none => false
/-- a field -/
def FlT (K : PySem.W.Frag) (f : Str) (cs : List Str) : Prop := ∀ c ∈ cs, ∀ C, cmOf K c = some C → ClsX K C ∧ PySem.W.findIn K (.ref C) f = some none
def flTB (K : PySem.W.Frag) (f : Str) (cs : List Str) : Bool := cs.all fun c => match cmOf K c with
  | some C => clsXB K C && decide (PySem.W.findIn K (.ref C) f = some none)
  | none => false
/-- a class without fields, to be raised -/
def x0B (K : PySem.W.Frag) (c : Str) : Bool := match cmOf K c with
  | some C => PySem.W.excIn K C [.type "ValueError", .type "Exception", .type "BaseException", .type "object"] "ValueError.__new__" && (PySem.W.keepIn K (.ref C) && (decide (PySem.W.subIn K (.ref C) (.type "BaseException") = some true) && decide (PySem.W.typeIn K (.ref C) = some (.type "type"))))
  | none => false
end

/-- a class over ValueError whose instances get fields -/
def oexB (K : PySem.W.Frag) (C : Addr) : Bool := (match K.lookup C with
  | some ⟨.type "type", _, .cls cd, sl⟩ => (match cd.mro, sl.toList with
    | .ref D :: bm, [_, _, _, _, some (.builtin n), _] => (D == C && (n == "ValueError.__new__" && (!cd.hasDel && (cd.hasDict && PySem.HandSPX.refsVE bm))))
    | _, _ => false)
  | _ => false) && (decide (PySem.W.findIn K (.ref C) "__setattr__" = some (some (.builtin "object.__setattr__"))) && (decide (PySem.W.subIn K (.ref C) (.type "BaseException") = some true) && (decide (PySem.W.typeIn K (.ref C) = some (.type "type")) && PySem.W.keepIn K (.ref C))))
def inner (s : Stmt) (j : Nat) : Stmt := match s with
  | .ClassDef (body := b) .. => b.getD j (.Pass ⟨0, 0, 0, 0⟩)
  | _ => .Pass ⟨0, 0, 0, 0⟩
/-! ### as the generator writes them -/
section
variable {X : Cx} {W : WX} {a : Expr} {ma : ME} {x y n r : Str} {i j : Nat} {body : List Stmt} {mb : MS} {tab : List (Str × Bool)} {p p2 pos qn q0 q1 q2 q3 q4 : Pos}
inductive NmE (X : Cx) : List Expr → List Str → Prop
  | nil : NmE X [] []
  | cons {y : Str} {p : Pos} {es : List Expr} {ys : List Str} : Gl X y → (y == ("__debug__" : Str)) = false → starEach (.Name y p :: es) X.env = (false, eval (.Name y p) X.env) :: starEach es X.env → NmE X es ys → NmE X (.Name y p :: es) (y :: ys)
theorem NmE.of : ∀ {es : List Expr} {ys : List Str} {Ds : List Addr}, NmE X es ys → Paired (fun y D => X.mg y = some (.ref D)) ys Ds → NmX X es (Ds.map .ref) (Ds.map .ref)
  | _, _, _, .nil, .nil => .nil
  | _, _, _, .cons a b c d, .cons e f => .cons (pe_glob a e rfl b) c (NmE.of d f)
end
end Mi

/-! The calculus for exceptions. -/
namespace Mi
open PySem L2
def isXK (tab : List (Str × Bool)) (x : D) (h : MH) : R D := match x with
  | .xo c _ _ => match tab.lookup c with
    | some b => .ok (.bl b) h
    | none => .bad
  | _ => .bad
def xfK (cs : List Str) (f : Str) (x : D) (h : MH) : R D := match x with
  | .xo c f' v => if c ∈ cs ∧ f' = f ∧ f ≠ Str.ofString "" then .ok v h else .bad
  | _ => .bad
def tryE (tab : List (Str × Bool)) (i j : Nat) (N : SP) (E : SX) : SX := fun c fs ρ h => match tab.lookup c with
  | some true => ∃ d, xoOf c fs = some d ∧ N (((ρ.set i none).set j (some d)).set i none) h
  | some false => E c fs ρ h
  | none => False
section
variable {N : SP} {T : D → MH → Prop} {B C : SP} {E : SX} {ρ : Slots} {h : MH} {a : ME} {b : MS} {c f : Str}
theorem w_raise (q : Sat (a ρ h) (fun d h1 => E c [(f, d)] ρ h1) fun x fs h => E x fs ρ h) : OS (mRaise c f a ρ h) N T B C E := Sat.ot (q.monoE (fun _ _ z => by rw [OS_exc]; exact z) fun _ _ _ z => z)
theorem w_raise0 (q : E c [] ρ h) : OS (mRaise0 c ρ h) N T B C E := by unfold mRaise0; rw [OS_exc]; exact q
theorem w_tryK {tab : List (Str × Bool)} {i j : Nat} (q : OS (b ρ h) N T B C (tryE tab i j N E)) : OS (mTryK tab i j b ρ h) N T B C E := by
  unfold mTryK
  cases e : b ρ h with
  | exc c fs ρ1 h1 =>
    rw [e, OS_exc] at q
    unfold tryE at q
    dsimp only
    split at q
    · rename_i l
      obtain ⟨d, e1, q⟩ := q
      (try rw [l])
      (try dsimp only)
      (try rw [e1])
      exact w_nx q
    · rename_i l
      (try rw [l])
      (try dsimp only)
      rw [OS_exc]
      exact q
    · exact q.elim
  | nx _ _ => rw [e, OS_nx] at q; exact w_nx q
  | rt _ _ => rw [e, OS_rt] at q; exact w_rt q
  | bk _ _ => rw [e, OS_bk] at q; exact w_bk q
  | ct _ _ => rw [e, OS_ct] at q; exact w_ct q
  | bad => rw [e, OS_bad] at q; exact q.elim
variable {Q : D → MH → Prop} {X : XE}
theorem w_isX {tab : List (Str × Bool)} (q : Sat (a ρ h) (fun x h1 => Sat (isXK tab x h1) Q X) X) : Sat (mIsX tab a ρ h) Q X := Sat.bnd q
theorem w_isXK {tab : List (Str × Bool)} {v : D} {k : Bool} (l : tab.lookup c = some k) (q : Q (.bl k) h) : Sat (isXK tab (.xo c f v) h) Q X := w_eq (by simp only [isXK, l]) q
theorem w_xf {cs : List Str} (q : Sat (a ρ h) (fun x h1 => Sat (xfK cs f x h1) Q X) X) : Sat (mXf cs f a ρ h) Q X := Sat.bnd q
theorem w_xfK {cs : List Str} {v : D} (l : c ∈ cs) (n : f ≠ Str.ofString "") (q : Q v h) : Sat (xfK cs f (.xo c f v) h) Q X := w_eq (by unfold xfK; exact if_pos ⟨l, rfl, n⟩) q
theorem isN_xo {c f : Str} {v : D} (h : MH) : dIsN (.xo c f v) .non h = .ok (.bl false) h := by unfold dIsN; simp
end
theorem w_lenLm {α : Type} {f : α → D} {l : List α} {Q : D → MH → Prop} {E : XE} {h : MH} {i : Nat} (c : getL h i = some (l.map f)) (q : Q (.int l.length) h) : Sat (dLen [.ref i] h) Q E := w_lenL c (by rw [List.length_map]; exact q)
theorem w_lenTm {α : Type} {f : α → D} {l : List α} {Q : D → MH → Prop} {E : XE} {h : MH} (q : Q (.int l.length) h) : Sat (dLen [.tup (l.map f)] h) Q E := w_eq (dLen_tup _ _) (by rw [List.length_map]; exact q)
theorem dNe_strs (x y : Str) (h : MH) : dNe (.str x) (.str y) h = .ok (.bl (!decide (x = y))) h := dNe_of (by unfold eqD; simp [scalD])
theorem dEq_bls (x y : Bool) (h : MH) : dEq (.bl x) (.bl y) h = .ok (.bl (decide (x = y))) h := dEq_of (by unfold eqD; simp [scalD])
theorem dNe_bls (x y : Bool) (h : MH) : dNe (.bl x) (.bl y) h = .ok (.bl (!decide (x = y))) h := dNe_of (by unfold eqD; simp [scalD])
theorem w_iterL {QI : List D × (MH → Bool) → MH → Prop} {E : XE} {h : MH} {i : Nat} {l : List D} (e : getL h i = some l) (q : QI (l, fun h' => decide (getL h' i = some l)) h) : Sat (iter1 (.ok (.ref i) h)) QI E := w_eq (iter1_ref _ _ _ e) q
end Mi

/-! except without a name; walks from the end. -/
namespace Mi
open PySem L2
def mTryO (tab : List (Str × Bool)) (b s : MS) : MS := fun ρ h => match b ρ h with
  | .exc c fs ρ1 h1 => match tab.lookup c with
    | some true => s ρ1 h1
    | some false => .exc c fs ρ1 h1
    | none => .bad
  | o => o
section
variable {X : Cx} {x : Str} {body suite : List Stmt} {b0 : Stmt} {qn q0 q4 : Pos} {mb ms : MS} {W : WX} {tab : List (Str × Bool)}
end
def tryO (tab : List (Str × Bool)) (s : MS) (N : SP) (T : D → MH → Prop) (B C : SP) (E : SX) : SX := fun c fs ρ h => match tab.lookup c with
  | some true => OS (s ρ h) N T B C E
  | some false => E c fs ρ h
  | none => False
theorem lkA {x : Str} {k : Bool} {l : List (Str × Bool)} : List.lookup x ((x, k) :: l) = some k := by simp [List.lookup]
theorem lkB {x y : Str} {b : Bool} {l : List (Str × Bool)} {r : Option Bool} (h : (x == y) = false) (q : List.lookup x l = r) : List.lookup x ((y, b) :: l) = r := by rw [List.lookup_cons, h]; exact q
end Mi

/-! Lists walked from the end; while by a measure. -/
namespace Mi
open PySem L2
def revK (x : D) (h1 : MH) : R (List D × (MH → Bool)) := match x with
  | .ref i => match getL h1 i with
    | some l => .ok (l.reverse, fun h' => decide (getL h' i = some l)) h1
    | none => .bad
  | _ => .bad
def mRevI (a : ME) : MI := fun ρ h => (a ρ h).bind fun x h1 => revK x h1
section
variable {X : Cx} {g : G} {W : WX} {e tg : Expr} {ma : ME} {p pos : Pos}
end
section
variable {N : SP} {T : D → MH → Prop} {B C : SP} {E : SX} {QI : List D × (MH → Bool) → MH → Prop} {X : XE}
end

end Mi
namespace Mi
open PySem L2
end Mi
namespace Mi
open PySem L2
def m_cell_at_5ae90 : List D → MH → R D := mFun 2 3
 (mSeq (mAsg 2 (mC (.int 0)))
 (mSeq (mIf (mB (mBin dLt (mVar 1) (mCall dLen (mCons (mVar 0) (mNil)))))
 (mAsg 2 (mCall dAbs (mCons (mBin dIx (mVar 0) (mVar 1)) (mNil))))
 (mSkip))
 (mSeq (mIf (mB (mBin dLt (mVar 2) (mBin dPow (mC (.int 10)) (mC (.int 18)))))
 (mRet (mBin dMod (mVar 2) (mC (.int 2147483647))))
 (mSkip))
 (mRet (mVar 2)))))
def m_spelled_7a0ca : List D → MH → R D := mFun 2 4
 (mSeq (mAsg 2 (mC (.str (Str.ofString ""))))
 (mSeq (mFor (mRange1 (mVar 1)) (mgName 3)
 (mSeq (mAsg 2 (mBin dAdd (mVar 2) (mBin dIx (mC (.str (Str.ofString "abcdefghijklmnopqrstuvwxyz"))) (mBin dMod (mVar 0) (mC (.int 26))))))
 (mAsg 0 (mBin dFdiv (mVar 0) (mC (.int 26))))))
 (mRet (mVar 2))))
def m_name_35a2d : List D → MH → R D := mFun 1 7
 (mSeq (mAsg 1 (mC (.str (Str.ofString "abcdefghijklmnopqrstuvwxyz"))))
 (mSeq (mAsg 2 (mBin dAdd (mC (.int 1)) (mBin dMod (mVar 0) (mC (.int 8)))))
 (mSeq (mIf (mB (mBin dGe (mVar 0) (mBin dPow (mC (.int 10)) (mC (.int 18)))))
 (mRet (mCall (m_spelled_7a0ca) (mCons (mBin dFdiv (mVar 0) (mC (.int 8))) (mCons (mVar 2) (mNil)))))
 (mSkip))
 (mSeq (mIf (mB (mBin dEq (mBin dMod (mBin dFdiv (mVar 0) (mC (.int 8))) (mC (.int 2))) (mC (.int 0))))
 (mSeq (mAsg 6 (mBin dMod (mBin dFdiv (mVar 0) (mC (.int 16))) (mVar 2)))
 (mRet (mBin dAdd (mBin dAdd (mBin dMul (mC (.str (Str.ofString "n"))) (mVar 6)) (mBin dIx (mVar 1) (mBin dMod (mBin dFdiv (mVar 0) (mC (.int 128))) (mC (.int 26))))) (mBin dMul (mC (.str (Str.ofString "n"))) (mBin dSub (mBin dSub (mVar 2) (mC (.int 1))) (mVar 6))))))
 (mSkip))
 (mSeq (mAsg 3 (mVar 0))
 (mSeq (mAsg 4 (mC (.str (Str.ofString ""))))
 (mSeq (mFor (mRange1 (mVar 2)) (mgName 5)
 (mSeq (mAsg 3 (mBin dMod (mBin dAdd (mBin dMul (mVar 3) (mC (.int 69621))) (mC (.int 12345))) (mC (.int 2147483647))))
 (mAsg 4 (mBin dAdd (mVar 4) (mBin dIx (mVar 1) (mBin dMod (mBin dFdiv (mVar 3) (mC (.int 7))) (mC (.int 26))))))))
 (mRet (mVar 4)))))))))
def m_docs_a9091 : List D → MH → R D := mFun 2 5
 (mSeq (mAsg 2 (mLc (mIter (mVar 0)) (mgName 4) (mYes) (mTup (mNil)) [4]))
 (mSeq (mAsg 3 (mCall dList (mCons (mVar 0) (mNil))))
 (mSeq (mFor (mRev1 (mCall dLen (mCons (mVar 0) (mNil)))) (mgName 4)
 (mSeq (mSetIx (mVar 3) (mVar 4) (mTup (mCons (mCall (m_name_35a2d) (mCons (mBin dIx (mVar 0) (mVar 4)) (mNil))) (mCons (mBin dIx (mVar 2) (mVar 4)) (mNil)))))
 (mIf (mB (mBin dGt (mVar 4) (mC (.int 0))))
 (mSetIx (mVar 2) (mBin dIx (mVar 1) (mVar 4)) (mBin dAdd (mTup (mCons (mBin dIx (mVar 3) (mVar 4)) (mNil))) (mBin dIx (mVar 2) (mBin dIx (mVar 1) (mVar 4)))))
 (mSkip))))
 (mRet (mVar 3)))))
def m_places_4e2eb : List D → MH → R D := mFun 1 5
 (mSeq (mAsg 1 (mLst (mCons (mTup (mNil)) (mNil))))
 (mSeq (mAsg 2 (mLc (mIter (mVar 0)) (mgName 3) (mYes) (mC (.int 0)) [3]))
 (mSeq (mFor (mRange2 (mC (.int 1)) (mCall dLen (mCons (mVar 0) (mNil)))) (mgName 3)
 (mSeq (mAsg 4 (mBin dIx (mVar 0) (mVar 3)))
 (mSeq (mDrop (mMeth isListD dAppend (mVar 1) (mCons (mBin dAdd (mBin dIx (mVar 1) (mVar 4)) (mTup (mCons (mBin dIx (mVar 2) (mVar 4)) (mNil)))) (mNil))))
 (mSetIx (mVar 2) (mVar 4) (mBin dAdd (mBin dIx (mVar 2) (mVar 4)) (mC (.int 1)))))))
 (mRet (mVar 1)))))
end Mi
namespace Mi
open PySem L2
local macro_rules | `(tactic| walk_at "w") => `(tactic| first
  | with_reducible refine w_asgT ?_
  | with_reducible refine w_eq (isi_str_str _ _) ?_
  | with_reducible refine w_eq (isi_int_int _ _) ?_
  | with_reducible refine w_eq (isi_tup_tup _ _) ?_)
local macro_rules | `(tactic| walk_at "w") => `(tactic| first
  | with_reducible refine w_un ?_
  | with_reducible refine w_rev1 ?_
  | with_reducible refine w_rev2 ?_
  | with_reducible refine w_chain ?_
  | with_reducible refine w_chK ?_
  | with_reducible refine w_retN ?_
  | with_reducible refine w_brk ?_
  | with_reducible refine w_cont ?_)
local macro_rules | `(tactic| walk_at "w") => `(tactic| first
  | with_reducible refine w_notV ?_
  | with_reducible refine w_andK ?_
  | with_reducible refine w_orK ?_
  | with_reducible refine w_notK ?_
  | with_reducible refine w_revL ?_
  | with_reducible refine w_listRg1 ?_
  | with_reducible refine w_tindex ?_
  | with_reducible refine w_setIx ?_)
local macro_rules | `(tactic| walk_at "w") => `(tactic| first
  | with_reducible refine w_some ?_
  | with_reducible refine w_unI ?_
  | with_reducible refine w_meth ?_
  | with_reducible refine w_isi ?_
  | with_reducible refine w_zip ?_
  | with_reducible refine w_ifE ?_
  | with_reducible refine w_andV ?_
  | with_reducible refine w_orV ?_)
local macro_rules | `(tactic| walk_at "w") => `(tactic| first
  | with_reducible refine w_range2 ?_
  | ((with_reducible refine w_dR1 ?_ ?_); (first | decide | omega))
  | ((with_reducible refine w_dR2 ?_ ?_); (first | decide | omega))
  | with_reducible refine w_iter ?_
  | with_reducible refine w_eq (iter1_tup _ _) ?_
  | with_reducible refine w_eq (iter1_str _ _) ?_
  | with_reducible refine w_sl ?_
  | with_reducible refine w_no ?_)
local macro_rules | `(tactic| walk_at "w") => `(tactic| first
  | ((with_reducible refine br_dt ?_ ?_); (first | assumption | omega))
  | ((with_reducible refine br_df ?_ ?_); (first | assumption | omega))
  | with_reducible refine w_tup ?_
  | ((with_reducible refine w_toTup ?_ ?_); (first | (simp; done)))
  | with_reducible refine w_lst ?_
  | with_reducible refine w_lc ?_
  | with_reducible refine w_for ?_
  | with_reducible refine w_range1 ?_)
local macro_rules | `(tactic| walk_at "w") => `(tactic| first
  | with_reducible refine w_eq (dMin_ev _ _ _) ?_
  | with_reducible refine w_eq (dAbs_ev _ _) ?_
  | with_reducible refine w_not ?_
  | with_reducible refine w_and ?_
  | with_reducible refine w_or ?_
  | with_reducible refine br_n ?_
  | with_reducible refine br_tt ?_
  | with_reducible refine br_ff ?_)
local macro_rules | `(tactic| walk_at "w") => `(tactic| first
  | ((with_reducible refine w_fdiv ?_ ?_); (first | assumption | decide | omega))
  | ((with_reducible refine w_mulS ?_ ?_); (first | decide | omega))
  | ((with_reducible refine w_addS ?_ ?_); (first | assumption | decide | omega))
  | ((with_reducible refine w_lenS ?_ ?_); (first | assumption | decide | omega))
  | ((with_reducible refine w_slS ?_ ?_); (first | assumption | decide | omega))
  | with_reducible refine w_eq (dLen_tup _ _) ?_
  | with_reducible refine w_eq (dSl_tup _ _ _ _) ?_
  | with_reducible refine w_eq (dMax_ev _ _ _) ?_)
local macro_rules | `(tactic| walk_at "w") => `(tactic| first
  | with_reducible refine w_eq (dEq_int _ _ _) ?_
  | with_reducible refine w_eq (dEq_str _ _ _) ?_
  | with_reducible refine w_eq (dLt_int _ _ _) ?_
  | with_reducible refine w_eq (dLe_int _ _ _) ?_
  | with_reducible refine w_eq (dGt_int _ _ _) ?_
  | with_reducible refine w_eq (dGe_int _ _ _) ?_
  | with_reducible refine w_eq (dNe_int _ _ _) ?_
  | ((with_reducible refine w_mod ?_ ?_); (first | assumption | decide | omega)))
local macro_rules | `(tactic| walk_at "w") => `(tactic| first
  | with_reducible refine w_if ?_
  | with_reducible refine w_B ?_
  | with_reducible refine w_unB ?_
  | with_reducible refine w_ret ?_
  | with_reducible refine w_drop ?_
  | with_reducible refine w_skip ?_
  | with_reducible refine w_eq (dAdd_int _ _ _) ?_
  | with_reducible refine w_eq (dSub_int _ _ _) ?_)
local macro_rules | `(tactic| walk_at "w") => `(tactic| first
  | with_reducible refine w_seq ?_
  | with_reducible refine w_asg ?_
  | with_reducible refine w_cons ?_
  | with_reducible refine w_nil ?_
  | with_reducible refine w_c ?_
  | ((with_reducible refine w_var (d := ?_) ?_ ?_); rotate_left; rfl)
  | with_reducible refine w_bin ?_
  | with_reducible refine w_call ?_)
local macro_rules | `(tactic| walk_at "go") => `(tactic| (repeat (walk_at "w")); try dsimp only [List.set])
local macro_rules | `(tactic| walk_at "fn") => `(tactic| ((refine w_fun ?_); simp only [startD, List.map_cons, List.map_nil, List.reduceReplicate, Nat.reduceSub, List.cons_append, List.nil_append]; walk_at "go"))
theorem mod_in (x : Int) {n : Int} (h : 0 < n) : 0 ≤ x % n ∧ x % n < n := ⟨Int.emod_nonneg _ (by omega), Int.emod_lt_of_pos _ h⟩
def Cell (c : Int) : Prop := Builtin.Int.intBits c ≤ 1048576
def Tp (l : List D) : Prop := ∃ zs : List Int, l = zs.map .int ∧ ∀ z ∈ zs, 0 ≤ z ∧ z < 2147483648
theorem Tp.nil : Tp [] := ⟨[], rfl, fun z hz => by simp at hz⟩
theorem Tp.app {l : List D} {v : Int} (t : Tp l) (hv : 0 ≤ v ∧ v < 2147483648) : Tp (l ++ [.int v]) := by
  obtain ⟨zs, rfl, hz⟩ := t
  refine ⟨zs ++ [v], by simp, fun z hm => ?_⟩
  rcases List.mem_append.mp hm with hm | hm
  · exact hz z hm
  · rw [List.mem_singleton.mp hm]; exact hv
/-! equal lists of scalars -/
theorem allSome_map {α β : Type} (g : α → β) : ∀ l : List α, allSome (l.map fun a => some (g a)) = some (l.map g)
  | [] => rfl
  | a :: l => by simp [allSome, allSome_map g l]
structure Scal {α : Type} (S : α → Prop) (f : α → D) (g : α → PyData) : Prop where
  py : ∀ n h a, pyOf (n + 1) h (f a) = some (g a)
  lay : ∀ a, S a → PyData.canLay0 (g a) = true
  dep : ∀ a, PyData.depth (g a) = 0
  ev : ∀ a b, PyData.eqv (g a) (g b) = true ↔ a = b
theorem Scal.all {α : Type} {S : α → Prop} {f : α → D} {g : α → PyData} (c : Scal S f g) : ∀ {l : List α}, (∀ a ∈ l, S a) → PyData.canLayAll0 (l.map g) = true ∧ PyData.depthAll (l.map g) = 0
  | [], _ => ⟨rfl, rfl⟩
  | a :: l, h => by
    obtain ⟨h1, h2⟩ := c.all (l := l) fun b hb => h b (List.mem_cons_of_mem _ hb)
    simp only [List.map_cons, PyData.canLayAll0, PyData.depthAll, c.lay a (h a List.mem_cons_self), h1, c.dep, h2]
    exact ⟨rfl, rfl⟩
theorem Scal.eq {α : Type} {S : α → Prop} {f : α → D} {g : α → PyData} (c : Scal S f g) [DecidableEq α] : ∀ {l m : List α}, PyData.eqvAll (l.map g) (m.map g) = decide (l = m)
  | [], [] => rfl
  | a :: l, [] => rfl
  | [], a :: l => rfl
  | a :: l, b :: m => by
    simp only [List.map_cons, PyData.eqvAll, c.eq (l := l) (m := m)]
    rw [Bool.eq_iff_iff, Bool.and_eq_true, c.ev, decide_eq_true_iff, decide_eq_true_iff, List.cons.injEq]
theorem scal_int : Scal (fun _ => True) D.int PyData.int := ⟨fun _ _ _ => rfl, fun _ _ => rfl, fun _ => rfl, fun a b => by simp [PyData.eqv]⟩
def OkS (x : Str) : Prop := ∀ c ∈ x.cps.toList, c < 1114112
/-! names -/
def Wd (n : Nat) (x : Str) : Prop := x.length ≤ n ∧ OkS x
theorem str_len (x : Str) : x.length = x.cps.toList.length := by rw [Array.length_toList]; rfl
theorem app_cps (x y : Str) : (x ++ y).cps.toList = x.cps.toList ++ y.cps.toList := by
  show (x.cps ++ y.cps).toList = _
  rw [Array.toList_append]
theorem app_len (x y : Str) : (x ++ y).length = x.length + y.length := by rw [str_len, str_len, str_len, app_cps, List.length_append]
theorem Wd.app {a b : Nat} {x y : Str} (hx : Wd a x) (hy : Wd b y) : Wd (a + b) (x ++ y) := ⟨by rw [app_len]; exact Nat.add_le_add hx.1 hy.1, fun c hc => by
  rw [app_cps] at hc
  rcases List.mem_append.mp hc with h | h
  · exact hx.2 c h
  · exact hy.2 c h⟩
theorem Wd.sign {a : Nat} {x : Str} (hx : Wd a x) {c : Nat} (hc : c ∈ x.cps.toList) : Wd 1 ⟨#[c]⟩ := ⟨Nat.le_refl 1, fun d hd => by
  have : d = c := by simpa using hd
  subst this
  exact hx.2 _ hc⟩
theorem Wd.le {a b : Nat} {x : Str} (hx : Wd a x) (h : a ≤ b) : Wd b x := ⟨Nat.le_trans hx.1 h, hx.2⟩
theorem joinL_nil : ∀ ps : List (List Nat), TL.joinL [] ps = ps.flatten
  | [] => rfl
  | [p] => by simp [TL.joinL]
  | p :: q :: r => by simp [TL.joinL, joinL_nil (q :: r)]
theorem join_cps (ys : List Str) : (Txt.join (Str.ofString "") ys).cps.toList = (ys.map fun y => y.cps.toList).flatten := by
  have e : Txt.join (Str.ofString "") ys = Str.join (Str.ofString "") ys := StrLaws.glued_eq_join _ _
  rw [e]
  exact (TL.tl_join _ _).trans (joinL_nil _)
theorem Wd.join : ∀ {ys : List Str}, (∀ y ∈ ys, Wd 1 y) → Wd ys.length (Txt.join (Str.ofString "") ys) := fun {ys} h => by
  constructor
  · rw [str_len, join_cps]
    induction ys with
    | nil => simp
    | cons y ys ih =>
      have h1 := (h y List.mem_cons_self).1
      have h2 := ih fun z hz => h z (List.mem_cons_of_mem _ hz)
      rw [str_len] at h1
      simp only [List.map_cons, List.flatten_cons, List.length_append, List.length_cons]
      omega
  · intro c hc
    rw [join_cps] at hc
    obtain ⟨l, hl, hc⟩ := List.mem_flatten.mp hc
    obtain ⟨y, hy, rfl⟩ := List.mem_map.mp hl
    exact (h y hy).2 c hc
theorem lt_len : (Str.ofString "abcdefghijklmnopqrstuvwxyz").length = 26 := by decide +kernel
def Wds (n : Nat) (l : List D) : Prop := ∃ ns : List Str, l = ns.map .str ∧ ∀ x ∈ ns, Wd n x
theorem Wds.app {n : Nat} {l m : List D} (hl : Wds n l) (hm : Wds n m) : Wds n (l ++ m) := by
  obtain ⟨a, rfl, ha⟩ := hl
  obtain ⟨b, rfl, hb⟩ := hm
  refine ⟨a ++ b, by simp, fun x hx => ?_⟩
  rcases List.mem_append.mp hx with h | h
  · exact ha x h
  · exact hb x h
theorem Wds.one {n : Nat} {x : Str} (h : Wd n x) : Wds n [.str x] := ⟨[x], rfl, fun y hy => by rw [List.mem_singleton.mp hy]; exact h⟩
/-! machines -/
def InL (n : Int) (l : List D) : Prop := ∀ d ∈ l, ∃ v, d = .int v ∧ 0 ≤ v ∧ v < n
theorem InL.nil (n : Int) : InL n [] := fun d hd => by simp at hd
theorem InL.app {n : Int} {l : List D} {v : Int} (h : InL n l) (h0 : 0 ≤ v) (h1 : v < n) : InL n (l ++ [.int v]) := fun d hd => by
  rcases List.mem_append.mp hd with q | q
  · exact h d q
  · exact ⟨v, List.mem_singleton.mp q, h0, h1⟩
theorem InL.of {n : Int} {ys : List D} (h : ∀ (i : Nat) y, ys[i]? = some y → ∃ v, y = .int v ∧ 0 ≤ v ∧ v < n) : InL n ys := fun d hd => by
  obtain ⟨k, hk⟩ := List.getElem?_of_mem hd
  exact h k d hk
theorem br_mid {p : Prop} {oa ob : Out} {N T B C E} (mid : SP) (q : Br p (OS oa mid T B C E) (OS ob mid T B C E)) (k : ∀ ρ h, mid ρ h → N ρ h) : Br p (OS oa N T B C E) (OS ob N T B C E) :=
  ⟨fun n => (q.1 n).mono k (fun _ _ z => z) (fun _ _ z => z) (fun _ _ z => z) fun _ _ _ _ z => z, fun n => (q.2 n).mono k (fun _ _ z => z) (fun _ _ z => z) (fun _ _ z => z) fun _ _ _ _ z => z⟩
structure Mach (F N S T K : List D) (m : Int) : Prop where
  m1 : 1 ≤ m
  fs : Wds 20 F
  fl : F.length ≤ 9
  ns : Wds 20 N
  nl : N.length ≤ 9
  ss : InL m S
  sl : S.length = N.length + 1
  tl : (T.length : Int) = m
  ts : ∀ r ∈ T, ∃ l, r = .tup l ∧ (l.length : Int) = m ∧ InL m l
  kl : (K.length : Int) = m
  ks : InL (2 ^ F.length) K
end Mi
namespace Mi
open PySem L2
end Mi
namespace Mi
open PySem L2
local macro_rules | `(tactic| walk_at "gl") => `(tactic| first
  | assumption
  | (refine Own.atL (h0 := ?_) (L := ?_) ?_ 0 ?_; rotate_left; rotate_left; assumption; rfl)
  | (refine Own.atL (h0 := ?_) (L := ?_) ?_ 1 ?_; rotate_left; rotate_left; assumption; rfl)
  | (refine Own.atL (h0 := ?_) (L := ?_) ?_ 2 ?_; rotate_left; rotate_left; assumption; rfl)
  | (refine Own.atL (h0 := ?_) (L := ?_) ?_ 3 ?_; rotate_left; rotate_left; assumption; rfl)
  | (refine Own.atL (h0 := ?_) (L := ?_) ?_ 4 ?_; rotate_left; rotate_left; assumption; rfl)
  | (refine Own.atL (h0 := ?_) (L := ?_) ?_ 5 ?_; rotate_left; rotate_left; assumption; rfl)
  | (refine Own.atL (h0 := ?_) (L := ?_) ?_ 6 ?_; rotate_left; rotate_left; assumption; rfl)
  | (refine Own.atL (h0 := ?_) (L := ?_) ?_ 7 ?_; rotate_left; rotate_left; assumption; rfl)
  | (refine Own.atL (h0 := ?_) (L := ?_) ?_ 8 ?_; rotate_left; rotate_left; assumption; rfl)
  | (refine Own.atL (h0 := ?_) (L := ?_) ?_ 9 ?_; rotate_left; rotate_left; assumption; rfl)
  | (refine Own.getL (h0 := ?_) (L := ?_) ?_ ?_; rotate_left; rotate_left; assumption; assumption))
local macro_rules | `(tactic| walk_at "il") => `(tactic| first
  | (refine Own.isL (h0 := ?_) (L := ?_) (l := ?_) ?_ 0 ?_; rotate_left; rotate_left; rotate_left; assumption; rfl)
  | (refine Own.isL (h0 := ?_) (L := ?_) (l := ?_) ?_ 1 ?_; rotate_left; rotate_left; rotate_left; assumption; rfl)
  | (refine Own.isL (h0 := ?_) (L := ?_) (l := ?_) ?_ 2 ?_; rotate_left; rotate_left; rotate_left; assumption; rfl)
  | (refine Own.isL (h0 := ?_) (L := ?_) (l := ?_) ?_ 3 ?_; rotate_left; rotate_left; rotate_left; assumption; rfl)
  | (refine Own.isL (h0 := ?_) (L := ?_) (l := ?_) ?_ 4 ?_; rotate_left; rotate_left; rotate_left; assumption; rfl)
  | (refine Own.isL (h0 := ?_) (L := ?_) (l := ?_) ?_ 5 ?_; rotate_left; rotate_left; rotate_left; assumption; rfl)
  | (refine Own.isL (h0 := ?_) (L := ?_) (l := ?_) ?_ 6 ?_; rotate_left; rotate_left; rotate_left; assumption; rfl)
  | (refine Own.isL (h0 := ?_) (L := ?_) (l := ?_) ?_ 7 ?_; rotate_left; rotate_left; rotate_left; assumption; rfl)
  | (refine Own.isL (h0 := ?_) (L := ?_) (l := ?_) ?_ 8 ?_; rotate_left; rotate_left; rotate_left; assumption; rfl)
  | (refine Own.isL (h0 := ?_) (L := ?_) (l := ?_) ?_ 9 ?_; rotate_left; rotate_left; rotate_left; assumption; rfl))
local macro_rules | `(tactic| walk_at "bd") => `(tactic| first | assumption | omega | (simp; done) | (simp; omega) | (simp [*]; done) | (simp [*]; omega))
local macro_rules | `(tactic| walk_at "w") => `(tactic| first
  | ((with_reducible refine w_xfK ?_ ?_ ?_); (exact List.mem_cons_self); (decide))
  | with_reducible refine w_eq (isN_xo _) ?_
  | with_reducible refine w_eq (dNeg_int _ _) ?_)
local macro_rules | `(tactic| walk_at "w") => `(tactic| first
  | ((with_reducible refine w_addT ?_ ?_); walk_at "bd")
  | ((with_reducible refine ⟨?_, ?_⟩); (with_reducible (show isListD (.ref _) _ = true)); walk_at "il")
  | with_reducible refine w_tryK ?_
  | with_reducible refine w_raise ?_
  | with_reducible refine w_raise0 ?_
  | with_reducible refine w_isX ?_
  | ((with_reducible refine w_isXK (k := ?_) ?_ ?_); rotate_left; (first | with_reducible exact lkA | (apply lkB; decide +kernel; exact lkA) | (apply lkB; decide +kernel; apply lkB; decide +kernel; exact lkA) | (apply lkB; decide +kernel; apply lkB; decide +kernel; apply lkB; decide +kernel; exact lkA)))
  | with_reducible refine w_xf ?_)
local macro_rules | `(tactic| walk_at "w") => `(tactic| first
  | with_reducible refine w_eq (isi_bool_int _ _) ?_
  | with_reducible refine w_eq (isi_str_int _ _) ?_
  | ((with_reducible refine w_lenLm (α := ?_) (f := ?_) (l := ?_) ?_ ?_); rotate_left; rotate_left; rotate_left; walk_at "gl")
  | ((with_reducible refine w_lenL (l := ?_) ?_ ?_); rotate_left; walk_at "gl")
  | ((with_reducible refine w_iterL (l := ?_) ?_ ?_); rotate_left; walk_at "gl"; dsimp only)
  | ((with_reducible refine w_tupL (l := ?_) ?_ ?_); rotate_left; walk_at "gl")
  | ((with_reducible refine w_ixT (d := ?_) ?_ ?_); rotate_left; (first | with_reducible assumption | rfl))
  | ((with_reducible refine w_ixL (l := ?_) (d := ?_) ?_ ?_ ?_); rotate_left; rotate_left; walk_at "gl"; (first | with_reducible assumption | rfl)))
local macro_rules | `(tactic| walk_at "w") => `(tactic| first
  | with_reducible refine w_chK ?_
  | with_reducible refine w_retN ?_
  | with_reducible refine w_brk ?_
  | with_reducible refine w_cont ?_
  | with_reducible refine w_asgT ?_
  | with_reducible refine w_eq (isi_str_str _ _) ?_
  | with_reducible refine w_eq (isi_int_int _ _) ?_
  | with_reducible refine w_eq (isi_tup_tup _ _) ?_)
local macro_rules | `(tactic| walk_at "w") => `(tactic| first
  | with_reducible refine w_revL ?_
  | with_reducible refine w_listRg1 ?_
  | with_reducible refine w_tindex ?_
  | with_reducible refine w_setIx ?_
  | with_reducible refine w_un ?_
  | with_reducible refine w_rev1 ?_
  | with_reducible refine w_rev2 ?_
  | with_reducible refine w_chain ?_)
local macro_rules | `(tactic| walk_at "w") => `(tactic| first
  | with_reducible refine w_zip ?_
  | with_reducible refine w_ifE ?_
  | with_reducible refine w_andV ?_
  | with_reducible refine w_orV ?_
  | with_reducible refine w_notV ?_
  | with_reducible refine w_andK ?_
  | with_reducible refine w_orK ?_
  | with_reducible refine w_notK ?_)
local macro_rules | `(tactic| walk_at "w") => `(tactic| first
  | with_reducible refine w_eq (iter1_tup _ _) ?_
  | with_reducible refine w_eq (iter1_str _ _) ?_
  | with_reducible refine w_sl ?_
  | with_reducible refine w_no ?_
  | with_reducible refine w_some ?_
  | with_reducible refine w_unI ?_
  | with_reducible refine w_meth ?_
  | with_reducible refine w_isi ?_)
local macro_rules | `(tactic| walk_at "w") => `(tactic| first
  | with_reducible refine w_lst ?_
  | with_reducible refine w_lc ?_
  | with_reducible refine w_for ?_
  | with_reducible refine w_range1 ?_
  | with_reducible refine w_range2 ?_
  | ((with_reducible refine w_dR1 ?_ ?_); (first | decide | omega))
  | ((with_reducible refine w_dR2 ?_ ?_); (first | decide | omega))
  | with_reducible refine w_iter ?_)
local macro_rules | `(tactic| walk_at "w") => `(tactic| first
  | with_reducible refine w_or ?_
  | with_reducible refine br_n ?_
  | with_reducible refine br_tt ?_
  | with_reducible refine br_ff ?_
  | ((with_reducible refine br_dt ?_ ?_); (first | assumption | omega | rfl))
  | ((with_reducible refine br_df ?_ ?_); (first | assumption | omega))
  | with_reducible refine w_tup ?_
  | ((with_reducible refine w_toTup ?_ ?_); exact (by simp)))
local macro_rules | `(tactic| walk_at "w") => `(tactic| first
  | with_reducible refine w_lenTm ?_
  | with_reducible refine w_eq (dLen_tup _ _) ?_
  | with_reducible refine w_eq (dSl_tup _ _ _ _) ?_
  | with_reducible refine w_eq (dMax_ev _ _ _) ?_
  | with_reducible refine w_eq (dMin_ev _ _ _) ?_
  | with_reducible refine w_eq (dAbs_ev _ _) ?_
  | with_reducible refine w_not ?_
  | with_reducible refine w_and ?_)
local macro_rules | `(tactic| walk_at "w") => `(tactic| first
  | with_reducible refine w_eq (dGe_int _ _ _) ?_
  | with_reducible refine w_eq (dNe_int _ _ _) ?_
  | ((with_reducible refine w_mod ?_ ?_); (first | assumption | decide | omega))
  | ((with_reducible refine w_fdiv ?_ ?_); (first | assumption | decide | omega))
  | ((with_reducible refine w_mulS ?_ ?_); (first | decide | omega))
  | ((with_reducible refine w_addS ?_ ?_); (first | assumption | decide | omega))
  | ((with_reducible refine w_lenS ?_ ?_); (first | assumption | decide | omega))
  | ((with_reducible refine w_slS ?_ ?_); (first | assumption | decide | omega)))
local macro_rules | `(tactic| walk_at "w") => `(tactic| first
  | with_reducible refine w_eq (dEq_int _ _ _) ?_
  | with_reducible refine w_eq (dEq_str _ _ _) ?_
  | with_reducible refine w_eq (dNe_strs _ _ _) ?_
  | with_reducible refine w_eq (dEq_bls _ _ _) ?_
  | with_reducible refine w_eq (dNe_bls _ _ _) ?_
  | with_reducible refine w_eq (dLt_int _ _ _) ?_
  | with_reducible refine w_eq (dLe_int _ _ _) ?_
  | with_reducible refine w_eq (dGt_int _ _ _) ?_)
local macro_rules | `(tactic| walk_at "w") => `(tactic| first
  | with_reducible refine w_if ?_
  | with_reducible refine w_B ?_
  | with_reducible refine w_unB ?_
  | with_reducible refine w_ret ?_
  | with_reducible refine w_drop ?_
  | with_reducible refine w_skip ?_
  | with_reducible refine w_eq (dAdd_int _ _ _) ?_
  | with_reducible refine w_eq (dSub_int _ _ _) ?_)
local macro_rules | `(tactic| walk_at "w") => `(tactic| first
  | with_reducible refine w_seq ?_
  | with_reducible refine w_asg ?_
  | with_reducible refine w_cons ?_
  | with_reducible refine w_nil ?_
  | with_reducible refine w_c ?_
  | ((with_reducible refine w_var (d := ?_) ?_ ?_); rotate_left; rfl)
  | with_reducible refine w_bin ?_
  | with_reducible refine w_call ?_)
local macro_rules | `(tactic| walk_at "go") => `(tactic| (repeat (walk_at "w")); try dsimp only [List.set])
local macro_rules | `(tactic| walk_at "fn") => `(tactic| ((refine w_fun ?_); simp only [startD, List.map_cons, List.map_nil, List.reduceReplicate, Nat.reduceSub, List.cons_append, List.nil_append]; walk_at "go"))
section
open PySem L2

/-! ### cells, names, parents -/
theorem bits_abs (z : Int) : Builtin.Int.intBits (if z < 0 then -z else z) = Builtin.Int.intBits z := by
  refine Nat.le_antisymm (bits_mono ?_) (bits_mono ?_) <;> split <;> omega
theorem cell_small {c : Int} (h0 : 0 ≤ c) (h1 : c < 2147483648) : Cell c := Nat.le_trans (bits_small (by omega) (by omega)) (by decide)
def CellP (c : Int) : Prop := Cell c ∧ 0 ≤ c
theorem cc_at {ns : List Int} (hb : ∀ z ∈ ns, Cell z) {h : MH} {i : Nat} (hl : getL h i = some (ns.map D.int)) {k : Int} (h0 : 0 ≤ k) : Sat (m_cell_at_5ae90 [.ref i, .int k] h) (fun d h' => h' = h ∧ ∃ c, d = .int c ∧ CellP c) noX := by
  walk_at "fn"
  refine br_mid (fun ρ h' => h' = h ∧ ∃ c, ρ = [some (.ref i), some (.int k), some (.int c)] ∧ CellP c) ?_ ?_
  · refine br_d (fun c => ?_) (fun c => ?_)
    · walk_at "go"
      obtain ⟨d, e1, e2⟩ := atI_in (l := ns.map D.int) h0 (by simpa using c)
      rw [List.getElem?_map, Option.map_eq_some_iff] at e2
      obtain ⟨z, e3, rfl⟩ := e2
      walk_at "go"
      refine ⟨rfl, _, rfl, ?_, ?_⟩
      · unfold Cell; rw [bits_abs]; exact hb z (List.mem_of_getElem? e3)
      · split <;> omega
    · walk_at "go"
      exact ⟨rfl, 0, rfl, show Builtin.Int.intBits 0 ≤ 1048576 by decide, by omega⟩
  rintro ρ h1 ⟨rfl, c, rfl, hc⟩
  walk_at "go"
  refine w_pow (n := 18) (by decide) ?_
  walk_at "go"
  refine br_d (fun q => ?_) (fun q => ?_)
  · walk_at "go"
    have := mod_in c (n := 2147483647) (by decide)
    exact ⟨rfl, _, rfl, cell_small this.1 (by omega), this.1⟩
  · walk_at "go"
    exact ⟨rfl, c, rfl, hc⟩

theorem ints_all {S : Int → Prop} : ∀ {ys : List D}, (∀ (i : Nat) y, ys[i]? = some y → ∃ c, y = .int c ∧ S c) → ∃ cs : List Int, ys = cs.map .int ∧ ∀ c ∈ cs, S c
  | [], _ => ⟨[], rfl, fun c hc => by simp at hc⟩
  | y :: ys, h => by
    obtain ⟨c, rfl, hc⟩ := h 0 y rfl
    obtain ⟨cs, rfl, hcs⟩ := ints_all (ys := ys) fun i z e => h (i + 1) z (by simpa using e)
    exact ⟨c :: cs, rfl, fun d hd => by
      rcases List.mem_cons.mp hd with rfl | q
      · exact hc
      · exact hcs d q⟩
theorem mem_app {α : Type} {S : α → Prop} {l : List α} {x : α} (h : ∀ a ∈ l, S a) (hx : S x) : ∀ a ∈ l ++ [x], S a := fun a ha => by
  rcases List.mem_append.mp ha with q | q
  · exact h a q
  · rw [List.mem_singleton.mp q]; exact hx
theorem map_app1 {α β : Type} (f : α → β) (l : List α) (x : α) : l.map f ++ [f x] = (l ++ [x]).map f := by simp
/-! names -/
def Ltr (c : Nat) : Prop := 97 ≤ c ∧ c ≤ 122
def Nm (x : Str) : Prop := 1 ≤ x.length ∧ x.length ≤ 8 ∧ ∀ c ∈ x.cps.toList, Ltr c
def Ls (n : Nat) (x : Str) : Prop := x.length = n ∧ ∀ c ∈ x.cps.toList, Ltr c
theorem Ls.app {a b : Nat} {x y : Str} (hx : Ls a x) (hy : Ls b y) : Ls (a + b) (x ++ y) := ⟨by rw [app_len, hx.1, hy.1], fun c hc => by
  rw [app_cps] at hc
  rcases List.mem_append.mp hc with q | q
  · exact hx.2 c q
  · exact hy.2 c q⟩
theorem Ls.nm {n : Nat} {x : Str} (h : Ls n x) (h1 : 1 ≤ n) (h8 : n ≤ 8) : Nm x := ⟨by rw [h.1]; exact h1, by rw [h.1]; exact h8, h.2⟩
theorem ltrs_all : ∀ c ∈ (Str.ofString "abcdefghijklmnopqrstuvwxyz").cps.toList, Ltr c := by unfold Ltr; decide +kernel
theorem w_ltr {i : Int} {h : MH} {Q : D → MH → Prop} {E : XE} (q : ∀ c, Ls 1 ⟨#[c]⟩ → Q (.str ⟨#[c]⟩) h) : Sat (dIx (.str (Str.ofString "abcdefghijklmnopqrstuvwxyz")) (.int (i % 26)) h) Q E := by
  have hm := mod_in i (n := 26) (by decide)
  obtain ⟨c, e1, e2⟩ := atI_in (l := (Str.ofString "abcdefghijklmnopqrstuvwxyz").cps.toList) hm.1 (by rw [← str_len, lt_len]; exact hm.2)
  refine w_ixS (by rw [lt_len]; decide) e1 (q c ⟨rfl, fun d hd => ?_⟩)
  have : d = c := by simpa using hd
  rw [this]
  exact ltrs_all c (List.mem_of_getElem? e2)
theorem w_addLs {a b : Nat} {x y : Str} {h : MH} {Q : D → MH → Prop} {E : XE} (hx : Ls a x) (hy : Ls b y) (c : a + b ≤ 1000) (q : Ls (a + b) (x ++ y) → Q (.str (x ++ y)) h) : Sat (dAdd (.str x) (.str y) h) Q E :=
  w_addS (by rw [hx.1, hy.1]; omega) (q (hx.app hy))
theorem emp_cps : (Str.ofString "").cps.toList = [] := by decide +kernel
theorem cc_spelled {c n : Int} (hn : 1 ≤ n ∧ n ≤ 8) {h : MH} : Sat (m_spelled_7a0ca [.int c, .int n] h) (fun d h' => h' = h ∧ ∃ x, d = .str x ∧ Nm x) noX := by
  walk_at "fn"
  refine w_loop0 (fun k ρ h' => h' = h ∧ ∃ c x o, ρ = [some (.int c), some (.int n), some (.str x), o] ∧ Ls k x) ⟨rfl, c, _, none, rfl, rfl, fun c hc => by rw [emp_cps] at hc; simp at hc⟩ (fun _ _ _ _ => rfl) ?_ ?_
  · rintro k d ρ h' hd ⟨rfl, c, x, o, rfl, hx⟩
    obtain ⟨hk, rfl⟩ := rangeD_get hd
    refine ⟨_, rfl, ?_⟩
    dsimp only [List.set]
    walk_at "go"
    refine w_ltr fun z hz => ?_
    refine w_addLs hx hz (by omega) fun hxz => ?_
    walk_at "go"
    exact ⟨rfl, _, _, _, rfl, hxz⟩
  · rintro ρ h' ⟨rfl, c, x, o, rfl, hx⟩
    rw [rangeD_length] at hx
    walk_at "go"
    exact ⟨rfl, x, rfl, hx.nm (by omega) (by omega)⟩

theorem n_ls {j : Int} (h0 : 0 ≤ j) (h1 : j ≤ 8) : Ls j.toNat (Txt.mul (Str.ofString "n") j) := by
  have : j = 0 ∨ j = 1 ∨ j = 2 ∨ j = 3 ∨ j = 4 ∨ j = 5 ∨ j = 6 ∨ j = 7 ∨ j = 8 := by omega
  rcases this with rfl | rfl | rfl | rfl | rfl | rfl | rfl | rfl | rfl <;> (unfold Ls Ltr; decide +kernel)
theorem w_mulN {j : Int} {h : MH} {Q : D → MH → Prop} {E : XE} (h0 : 0 ≤ j) (h1 : j ≤ 8) (q : ∀ x, Ls j.toNat x → Q (.str x) h) : Sat (dMul (.str (Str.ofString "n")) (.int j) h) Q E :=
  w_eq (by rw [dMul_str, if_pos]; have : (Str.ofString "n").length = 1 := by decide +kernel
           rw [this]; omega) (q _ (n_ls h0 h1))
theorem cc_name {c : Int} (hc : CellP c) {h : MH} : Sat (m_name_35a2d [.int c] h) (fun d h' => h' = h ∧ ∃ x, d = .str x ∧ Nm x) noX := by
  have hm := mod_in c (n := 8) (by decide)
  walk_at "fn"
  refine w_pow (n := 18) (by decide) ?_
  walk_at "go"
  have hn8 : 1 ≤ 1 + c % 8 ∧ 1 + c % 8 ≤ 8 := by omega
  generalize 1 + c % 8 = n at *
  refine br_d (fun q => ?_) (fun q => ?_)
  · walk_at "go"
    exact (cc_spelled (by omega)).mono fun d h' hh => hh
  walk_at "go"
  refine br_d (fun q => ?_) (fun q => ?_)
  · walk_at "go"
    have hm2 := mod_in (c / 16) (n := n) (by omega)
    generalize c / 16 % n = t at *
    refine w_mulN hm2.1 (by omega) fun x hx => ?_
    walk_at "go"
    refine w_ltr fun z hz => ?_
    refine w_addLs hx hz (by omega) fun hxz => ?_
    walk_at "go"
    refine w_mulN (by omega) (by omega) fun y hy => ?_
    refine w_addLs hxz hy (by omega) fun hxy => ?_
    exact ⟨rfl, _, rfl, hxy.nm (by omega) (by omega)⟩
  walk_at "go"
  refine w_loop0 (fun k ρ h' => h' = h ∧ ∃ z x o6, ρ = [some (.int c), some (.str (Str.ofString "abcdefghijklmnopqrstuvwxyz")), some (.int n), some (.int z), some (.str x), o6, none] ∧ Ls k x ∧ CellP z) ⟨rfl, c, _, none, rfl, ⟨rfl, fun c hc => by rw [emp_cps] at hc; simp at hc⟩, hc⟩ (fun _ _ _ _ => rfl) ?_ ?_
  · rintro k d ρ h' hd ⟨rfl, z, x, o6, rfl, hx, hz⟩
    obtain ⟨hk, rfl⟩ := rangeD_get hd
    refine ⟨_, rfl, ?_⟩
    dsimp only [List.set]
    walk_at "go"
    refine w_mulB (a := 1048576) (b := 64) hz.1 (bits_small (by decide) (by decide)) (by decide) ?_
    walk_at "go"
    have hz2 := mod_in (z * 69621 + 12345) (n := 2147483647) (by decide)
    generalize (z * 69621 + 12345) % 2147483647 = v at *
    refine w_ltr fun l hl => ?_
    refine w_addLs hx hl (by omega) fun hxz => ?_
    exact ⟨rfl, _, _, _, rfl, hxz, cell_small hz2.1 (by omega), hz2.1⟩
  · rintro ρ h' ⟨rfl, z, x, o6, rfl, hx, hz⟩
    rw [rangeD_length] at hx
    walk_at "go"
    exact ⟨rfl, x, rfl, hx.nm (by omega) (by omega)⟩
/-! parents -/
def Par (ps : List Int) : Prop := ps[0]? = some 0 ∧ ∀ (k : Nat) p, 0 < k → ps[k]? = some p → 0 ≤ p ∧ p < (k : Int)
theorem Par.app {ps : List Int} {p : Int} (h : Par ps) (hl : 0 < ps.length) (h0 : 0 ≤ p) (h1 : p < (ps.length : Int)) : Par (ps ++ [p]) := ⟨by rw [List.getElem?_append_left hl]; exact h.1, fun k q hk e => by
  rcases Nat.lt_or_ge k ps.length with z | z
  · rw [List.getElem?_append_left z] at e
    exact h.2 k q hk e
  · rw [List.getElem?_append_right z] at e
    have : k - ps.length = 0 := by
      have := (List.getElem?_eq_some_iff.mp e).1
      simp at this; omega
    rw [this] at e
    simp at e
    omega⟩
theorem map_at {f : Int → D} {l : List Int} {k : Int} (h0 : 0 ≤ k) (h1 : k < (l.length : Int)) : ∃ c, atI (l.map f) k = some (f c) ∧ l[k.toNat]? = some c := by
  obtain ⟨d, e1, e2⟩ := atI_in (l := l.map f) (i := k) h0 (by simpa using h1)
  rw [List.getElem?_map, Option.map_eq_some_iff] at e2
  obtain ⟨c, e2, rfl⟩ := e2
  exact ⟨c, e1, e2⟩
theorem mod_bd {x m K : Int} (h0 : 0 < m) (h1 : m ≤ K + 1) : 0 ≤ x % m ∧ x % m ≤ K := by
  have := mod_in x h0
  omega
/-! ### documents -/
inductive Doc where
  | mk (x : Str) (ks : List Doc)
def Doc.nm : Doc → Str
  | .mk x _ => x
def Doc.ks : Doc → List Doc
  | .mk _ l => l
mutual
def Doc.toD : Doc → D
  | .mk x l => .tup [.str x, .tup (Doc.toDs l)]
def Doc.toDs : List Doc → List D
  | [] => []
  | d :: l => d.toD :: Doc.toDs l
end
theorem toDs_map : ∀ l : List Doc, Doc.toDs l = l.map Doc.toD
  | [] => rfl
  | d :: l => by rw [Doc.toDs, toDs_map l, List.map_cons]
theorem toD_mk (x : Str) (l : List Doc) : (Doc.mk x l).toD = .tup [.str x, .tup (l.map Doc.toD)] := by rw [Doc.toD, toDs_map]
def Doc.ok : Nat → Doc → Prop
  | 0, _ => False
  | n + 1, .mk x l => Nm x ∧ l.length ≤ 1000 ∧ ∀ k ∈ l, k.ok n
def Doc.at : Doc → List Int → Option Doc
  | d, [] => some d
  | d, k :: r => if 0 ≤ k then match d.ks[k.toNat]? with
    | some c => c.at r
    | none => none else none
theorem at_app : ∀ (d : Doc) (a b : List Int), d.at (a ++ b) = (d.at a).bind fun c => c.at b
  | d, [], b => by simp [Doc.at]
  | d, k :: r, b => by
    rw [List.cons_append, Doc.at, Doc.at]
    split
    · split
      · rename_i c e
        exact at_app c r b
      · rfl
    · rfl
theorem at_one (d : Doc) (k : Int) : d.at [k] = if 0 ≤ k then d.ks[k.toNat]? else none := by
  rw [Doc.at]
  split
  · split
    · rename_i c e; rw [e, Doc.at]
    · rename_i e; rw [e]
  · rfl
/-- the children of the k-th -/
def isKid (pn : Nat → Nat) (k j : Nat) : Bool := decide (0 < j ∧ pn j = k)
def kids (pn : Nat → Nat) (n k : Nat) : List Nat := (List.range n).filter (isKid pn k)
def kidsF (pn : Nat → Nat) (n m k : Nat) : List Nat := (List.range' m (n - m)).filter (isKid pn k)
def cntF (pn : Nat → Nat) (k p : Nat) : Nat := ((List.range k).filter (isKid pn p)).length
def PnOk (pn : Nat → Nat) (n : Nat) : Prop := ∀ j, 0 < j → j < n → pn j < j
theorem kids_mem {pn : Nat → Nat} {n k j : Nat} (h : j ∈ kids pn n k) : j < n ∧ 0 < j ∧ pn j = k := by
  unfold kids at h
  rw [List.mem_filter, List.mem_range] at h
  exact ⟨h.1, of_decide_eq_true h.2⟩
theorem kidsF_mem {pn : Nat → Nat} {n m k j : Nat} (h : j ∈ kidsF pn n m k) : m ≤ j ∧ 0 < j ∧ pn j = k := by
  unfold kidsF at h
  rw [List.mem_filter, List.mem_range'] at h
  obtain ⟨⟨i, h1, h2⟩, h3⟩ := h
  have := of_decide_eq_true h3
  exact ⟨by omega, this⟩
theorem range_cut {k n : Nat} (h : k ≤ n) : List.range n = List.range k ++ List.range' k (n - k) := by
  have e : n = k + (n - k) := by omega
  rw [List.range_eq_range', List.range_eq_range']
  have := List.range'_append_1 (s := 0) (m := k) (n := n - k)
  rw [Nat.zero_add, ← e] at this
  exact this.symm
theorem kidsF_step {pn : Nat → Nat} {n m k : Nat} (h : m < n) : kidsF pn n m k = if isKid pn k m = true then m :: kidsF pn n (m + 1) k else kidsF pn n (m + 1) k := by
  unfold kidsF
  have e : n - m = (n - (m + 1)) + 1 := by omega
  rw [e, List.range'_succ, List.filter_cons]
theorem kidsF_top {pn : Nat → Nat} {n k : Nat} : kidsF pn n n k = [] := by unfold kidsF; simp
/-- all children of j are behind it -/
theorem kidsF_all {pn : Nat → Nat} {n m j : Nat} (hp : PnOk pn n) (hm : m ≤ j + 1) (hj : j < n) : kidsF pn n m j = kids pn n j := by
  unfold kids kidsF
  rcases Nat.lt_or_ge n m with z | z
  · have : n - m = 0 := by omega
    omega
  · rw [range_cut z, List.filter_append]
    have : (List.range m).filter (isKid pn j) = [] := by
      rw [List.filter_eq_nil_iff]
      intro i hi
      rw [List.mem_range] at hi
      unfold isKid
      intro q
      have q := of_decide_eq_true q
      have := hp i q.1 (by omega)
      omega
    rw [this, List.nil_append]
theorem kid_at {pn : Nat → Nat} {n k : Nat} (h0 : 0 < k) (h1 : k < n) : (kids pn n (pn k))[cntF pn k (pn k)]? = some k := by
  unfold kids cntF
  rw [range_cut (Nat.le_of_lt h1), List.filter_append, List.getElem?_append_right (Nat.le_refl _), Nat.sub_self]
  have e : n - k = (n - (k + 1)) + 1 := by omega
  have t : isKid pn (pn k) k = true := by unfold isKid; simp [h0]
  rw [e, List.range'_succ, List.filter_cons, if_pos t]
  rfl
theorem cnt_step {pn : Nat → Nat} {k p : Nat} : cntF pn (k + 1) p = cntF pn k p + if isKid pn p k = true then 1 else 0 := by
  unfold cntF
  rw [List.range_succ, List.filter_append, List.length_append, List.filter_cons]
  split <;> simp
theorem cnt_le {pn : Nat → Nat} {k p : Nat} : cntF pn k p ≤ k := by
  unfold cntF
  have := List.length_filter_le (isKid pn p) (List.range k)
  simpa using this
theorem kids_len {pn : Nat → Nat} {n k : Nat} : (kids pn n k).length ≤ n := cnt_le
/-- documents by their children -/
def DocsF (pn : Nat → Nat) (n m : Nat) (f : Nat → Doc) : Prop := ∀ j, m ≤ j → j < n → ∃ x, Nm x ∧ f j = .mk x ((kids pn n j).map f)
theorem DocsF.put {pn : Nat → Nat} {n m : Nat} {f : Nat → Doc} (hp : PnOk pn n) (h : DocsF pn n (m + 1) f) {x : Str} (hx : Nm x) : DocsF pn n m (fun i => if i = m then .mk x ((kids pn n m).map f) else f i) := fun j h1 h2 => by
  have key : (kids pn n j).map (fun i => if i = m then .mk x ((kids pn n m).map f) else f i) = (kids pn n j).map f := by
    refine List.map_congr_left fun i hi => ?_
    obtain ⟨a, b, c⟩ := kids_mem hi
    have := hp i b a
    rw [if_neg (by omega)]
  by_cases e : j = m
  · subst e
    rw [key]
    dsimp only
    rw [if_pos rfl]
    exact ⟨x, hx, rfl⟩
  · rw [key]
    dsimp only
    rw [if_neg e]
    exact h j (by omega) h2
theorem DocsF.ok {pn : Nat → Nat} {n : Nat} {f : Nat → Doc} (hp : PnOk pn n) (hn : n ≤ 1000) (h : DocsF pn n 0 f) : ∀ (t j : Nat), n ≤ j + t → j < n → (f j).ok t
  | 0, j, h1, h2 => by omega
  | t + 1, j, h1, h2 => by
    obtain ⟨x, hx, e⟩ := h j (Nat.zero_le _) h2
    rw [e]
    refine ⟨hx, ?_, ?_⟩
    · rw [List.length_map]
      exact Nat.le_trans kids_len hn
    · intro k hk
      obtain ⟨i, hi, rfl⟩ := List.mem_map.mp hk
      obtain ⟨a, b, c⟩ := kids_mem hi
      have := hp i b a
      exact DocsF.ok hp hn h t i (by omega) a
/-- places -/
def PlF (pn : Nat → Nat) (n : Nat) (q : Nat → List Int) : Prop := q 0 = [] ∧ ∀ k, 0 < k → k < n → q k = q (pn k) ++ [(cntF pn k (pn k) : Int)]
theorem PlF.put {pn : Nat → Nat} {n : Nat} {q : Nat → List Int} (hp : PnOk pn (n + 1)) (hn : 0 < n) (h : PlF pn n q) : PlF pn (n + 1) (fun i => if i = n then q (pn n) ++ [(cntF pn n (pn n) : Int)] else q i) := ⟨by dsimp only; rw [if_neg (by omega)]; exact h.1, fun k h0 h1 => by
  dsimp only
  have := hp k h0 h1
  by_cases e : k = n
  · subst e
    rw [if_pos rfl, if_neg (by omega)]
  · rw [if_neg e, if_neg (by omega)]
    exact h.2 k h0 (by omega)⟩
theorem stands {pn : Nat → Nat} {n : Nat} {f : Nat → Doc} {q : Nat → List Int} (hp : PnOk pn n) (hf : DocsF pn n 0 f) (hq : PlF pn n q) : ∀ (m k : Nat), k ≤ m → k < n → (f 0).at (q k) = some (f k)
  | 0, k, h1, h2 => by
    have : k = 0 := by omega
    subst this
    rw [hq.1, Doc.at]
  | m + 1, k, h1, h2 => by
    by_cases h0 : k = 0
    · subst h0
      rw [hq.1, Doc.at]
    · have hk := hp k (by omega) h2
      rw [hq.2 k (by omega) h2, at_app, stands hp hf hq m (pn k) (by omega) (by omega), Option.bind_some, at_one, if_pos (by omega)]
      obtain ⟨x, _, e⟩ := hf (pn k) (Nat.zero_le _) (by omega)
      rw [e]
      show ((kids pn n (pn k)).map f)[((cntF pn k (pn k) : Nat) : Int).toNat]? = some (f k)
      rw [Int.toNat_natCast, List.getElem?_map, kid_at (by omega) h2]
      rfl
theorem pl_len {pn : Nat → Nat} {n : Nat} {q : Nat → List Int} (hp : PnOk pn n) (hq : PlF pn n q) : ∀ (m k : Nat), k ≤ m → k < n → (q k).length ≤ k
  | 0, k, h1, h2 => by
    have : k = 0 := by omega
    subst this
    rw [hq.1]; simp
  | m + 1, k, h1, h2 => by
    by_cases h0 : k = 0
    · subst h0
      rw [hq.1]; simp
    · have hk := hp k (by omega) h2
      rw [hq.2 k (by omega) h2, List.length_append]
      have := pl_len hp hq m (pn k) (by omega) (by omega)
      simp; omega
end
section
open PySem L2

def pnOf (ps : List Int) : Nat → Nat := fun j => (ps.getD j 0).toNat
theorem Par.pn {ps : List Int} (h : Par ps) : PnOk (pnOf ps) ps.length := fun j h0 h1 => by
  have e := List.getElem?_eq_getElem (l := ps) (i := j) h1
  have := h.2 j _ h0 e
  unfold pnOf
  rw [List.getD_eq_getElem?_getD, e]
  simp; omega
theorem Par.val {ps : List Int} (h : Par ps) {j : Nat} {p : Int} (e : ps[j]? = some p) : p = (pnOf ps j : Int) := by
  unfold pnOf
  rw [List.getD_eq_getElem?_getD, e]
  rcases Nat.eq_zero_or_pos j with z | z
  · subst z
    rw [h.1] at e
    cases e
    rfl
  · have := h.2 j p z e
    simp; omega
theorem ixN_at {n a : Nat} (h : a < n) : ixN n (a : Int) = some a := by
  unfold ixN
  simp
  omega
theorem getE {α : Type} {l : List α} {i : Nat} (h : i < l.length) : l[i]? = some l[i] := List.getElem?_eq_getElem h
theorem cc_docs {cs : List Int} (hcs : ∀ c ∈ cs, CellP c) (h2 : cs.length ≤ 1000) {ps : List Int} (hp : Par ps) (hps : ps.length = cs.length) {h : MH} {i ip : Nat} (hl : getL h i = some (cs.map D.int)) (hlp : getL h ip = some (ps.map D.int)) :
    Sat (m_docs_a9091 [.ref i, .ref ip] h) (fun d h' => ∃ (j : Nat) (f : Nat → Doc), d = .ref j ∧ Own h h' [(j, (List.range ps.length).map fun k => (f k).toD)] ∧ DocsF (pnOf ps) ps.length 0 f) noX := by
  have hpn := hp.pn
  walk_at "fn"
  refine o_comp (fun _ y => y = .tup []) (Own.nil h) (by simp; omega) (fun h' hh => by simp [pre_getL hh hl]) ?_ ?_
  · intro k d h' hd _
    refine ⟨_, rfl, ?_⟩
    dsimp only [wipeD, List.set]
    walk_at "go"
    exact ⟨rfl, rfl⟩
  intro Cs hCl hCs iC h3 o3
  rw [List.length_map, ← hps] at hCl
  walk_at "go"
  refine o_list o3 (o3.getL hl) fun iM h4 o4 => ?_
  walk_at "go"
  rw [← hps, Int.toNat_natCast]
  refine w_loop0 (fun k ρ h' => k ≤ ps.length ∧ ∃ o4, ∃ (Ms Cs : List D) (f : Nat → Doc), ρ = [some (.ref i), some (.ref ip), some (.ref iC), some (.ref iM), o4] ∧ Own h h' [(iM, Ms), (iC, Cs)] ∧ DocsF (pnOf ps) ps.length (ps.length - k) f ∧ Ms.length = ps.length ∧ Cs.length = ps.length ∧
    (∀ j, ps.length - k ≤ j → j < ps.length → Ms[j]? = some (f j).toD) ∧ ∀ j, j < ps.length → Cs[j]? = some (.tup ((kidsF (pnOf ps) ps.length (ps.length - k) j).map fun i => (f i).toD))) ⟨Nat.zero_le _, none, cs.map .int, Cs, fun _ => .mk (Str.ofString "") [], rfl, o4, fun j h1 h2 => by omega, by simp [hps], hCl, fun j h1 h2 => by omega, fun j hj => by
      have e := getE (l := Cs) (i := j) (by omega)
      rw [e, hCs j _ e]
      rw [Nat.sub_zero, kidsF_top]
      rfl⟩ (fun _ _ _ _ => rfl) ?_ ?_
  · rintro k d ρ h' hd ⟨hkn, o4', Ms, Cs, f, rfl, o, hf, hMl, hCl, hM, hC⟩
    obtain ⟨hk, rfl⟩ := revRangeD_get hd
    refine ⟨_, rfl, ?_⟩
    dsimp only [List.set]
    obtain ⟨m, hm⟩ : ∃ m, ps.length - k = m + 1 := ⟨ps.length - k - 1, by omega⟩
    have e1 : (0 : Int) + (ps.length : Int) - 1 - (k : Int) = (m : Int) := by omega
    rw [e1]
    rw [hm] at hf hM hC
    have hm2 : ps.length - (k + 1) = m := by omega
    have hmn : m < ps.length := by omega
    have e2 := getE (l := cs) (i := m) (by omega)
    have a2 : atI (cs.map D.int) (m : Int) = some (.int cs[m]) := atI_at (by rw [List.getElem?_map, e2]; rfl)
    walk_at "go"
    refine (cc_name (hcs _ (List.mem_of_getElem? e2))).mono ?_
    rintro d h5 ⟨rfl, x, rfl, hx⟩
    have a3 : atI Cs (m : Int) = some _ := atI_at (hC m hmn)
    walk_at "go"
    refine o_set o 0 rfl (m := m) (by rw [ixN_at (by omega)]) fun h6 o6 => ?_
    rw [List.set_cons_zero] at o6
    rw [kidsF_all hpn (Nat.le_refl _) hmn] at o6
    have hfn := hf.put hpn hx
    have kmap : ∀ j, (kidsF (pnOf ps) ps.length (m + 1) j).map (fun i => (f i).toD) = (kidsF (pnOf ps) ps.length (m + 1) j).map (fun i => ((if i = m then Doc.mk x ((kids (pnOf ps) ps.length m).map f) else f i)).toD) := fun j => List.map_congr_left fun i hi => by
      have := (kidsF_mem hi).1
      rw [if_neg (by omega)]
    have edoc : D.tup [.str x, .tup ((kids (pnOf ps) ps.length m).map fun i => (f i).toD)] = (Doc.mk x ((kids (pnOf ps) ps.length m).map f)).toD := by rw [toD_mk, List.map_map]; rfl
    rw [edoc] at o6
    have hMn : ∀ j, m ≤ j → j < ps.length → (Ms.set m (Doc.mk x ((kids (pnOf ps) ps.length m).map f)).toD)[j]? = some ((if j = m then Doc.mk x ((kids (pnOf ps) ps.length m).map f) else f j)).toD := fun j h1 h2 => by
      by_cases e : j = m
      · subst e
        rw [if_pos rfl, List.getElem?_set_self (by omega)]
      · rw [if_neg e, List.getElem?_set_ne (Ne.symm e)]
        exact hM j (by omega) h2
    walk_at "go"
    refine br_d (fun q => ?_) (fun q => ?_)
    · walk_at "go"
      have a4 := atI_at (hMn m (Nat.le_refl _) hmn)
      rw [if_pos rfl] at a4
      refine w_ixL (o6.atL 0 rfl) a4 ?_
      walk_at "go"
      have e3 := getE (l := ps) (i := m) hmn
      have a5 : atI (ps.map D.int) (m : Int) = some (.int (pnOf ps m : Int)) := atI_at (by rw [List.getElem?_map, e3]; exact congrArg some (congrArg D.int (hp.val e3)))
      have hpm := hpn m (by omega) hmn
      walk_at "go"
      have a6 := atI_at (hC (pnOf ps m) (by omega))
      walk_at "go"
      refine w_addT (by have := List.length_filter_le (isKid (pnOf ps) (pnOf ps m)) (List.range' (m + 1) (ps.length - (m + 1))); simp [kidsF] at this ⊢; omega) ?_
      walk_at "go"
      refine o_set o6 1 rfl (m := pnOf ps m) (by rw [ixN_at (by omega)]) fun h7 o7 => ?_
      dsimp only [List.set] at o7
      refine ⟨by omega, _, _, _, (fun i => if i = m then Doc.mk x ((kids (pnOf ps) ps.length m).map f) else f i), rfl, o7, ?_, by simp [hMl], by simp [hCl], ?_, ?_⟩
      · rw [hm2]; exact hfn
      · rw [hm2]; exact hMn
      · rw [hm2]
        intro j hj
        rw [kidsF_step hmn]
        by_cases e : j = pnOf ps m
        · subst e
          rw [List.getElem?_set_self (by omega), if_pos (by unfold isKid; simp; omega), List.map_cons]
          dsimp only
          rw [if_pos rfl, ← kmap]
          rfl
        · rw [List.getElem?_set_ne (Ne.symm e), hC j hj, if_neg (by unfold isKid; simp; omega)]
          exact congrArg some (congrArg D.tup (kmap j))
    · walk_at "go"
      refine ⟨by omega, _, _, _, (fun i => if i = m then Doc.mk x ((kids (pnOf ps) ps.length m).map f) else f i), rfl, o6, ?_, by simp [hMl], hCl, ?_, ?_⟩
      · rw [hm2]; exact hfn
      · rw [hm2]; exact hMn
      · rw [hm2]
        intro j hj
        rw [kidsF_step hmn, if_neg (by unfold isKid; simp; omega), hC j hj]
        exact congrArg some (congrArg D.tup (kmap j))
  · rintro ρ h' ⟨hkn, o4', Ms, Cs, f, rfl, o, hf, hMl, hCl, hM, hC⟩
    rw [revRangeD_length, Nat.sub_self] at hf hM hC
    walk_at "go"
    refine ⟨iM, f, rfl, ?_, hf⟩
    have : Ms = (List.range ps.length).map fun k => (f k).toD := by
      refine List.ext_getElem? fun j => ?_
      rcases Nat.lt_or_ge j ps.length with z | z
      · rw [hM j (Nat.zero_le _) z, List.getElem?_map, List.getElem?_range z]; rfl
      · rw [List.getElem?_eq_none (by omega), List.getElem?_eq_none (by simpa using z)]
    rw [← this]
    exact o.head

theorem cc_places {ps : List Int} (hp : Par ps) (h2 : ps.length ≤ 1000) {h : MH} {i : Nat} (hl : getL h i = some (ps.map D.int)) :
    Sat (m_places_4e2eb [.ref i] h) (fun d h' => ∃ (j : Nat) (q : Nat → List Int), d = .ref j ∧ Own h h' [(j, (List.range ps.length).map fun k => .tup ((q k).map .int))] ∧ PlF (pnOf ps) ps.length q) noX := by
  have hpn := hp.pn
  have hpos : 0 < ps.length := (List.getElem?_eq_some_iff.mp hp.1).1
  walk_at "fn"
  refine o_new (Own.nil h) (by simp) fun iF h3 o3 => ?_
  walk_at "go"
  refine o_comp (fun _ y => y = .int 0) o3 (by simp; omega) (fun h' hh => by simp [pre_getL hh (o3.getL hl)]) ?_ ?_
  · intro k d h' hd _
    refine ⟨_, rfl, ?_⟩
    dsimp only [wipeD, List.set]
    walk_at "go"
    exact ⟨rfl, rfl⟩
  intro Cs hCl hCs iC h4 o4
  rw [List.length_map] at hCl
  walk_at "go"
  refine w_loop0 (fun k ρ h' => k + 1 ≤ ps.length ∧ ∃ o3 o4, ∃ (Cs : List D) (q : Nat → List Int), ρ = [some (.ref i), some (.ref iF), some (.ref iC), o3, o4] ∧ Own h h' [(iC, Cs), (iF, (List.range (k + 1)).map fun k => .tup ((q k).map .int))] ∧ PlF (pnOf ps) (k + 1) q ∧ Cs.length = ps.length ∧
    ∀ j, j < ps.length → Cs[j]? = some (.int (cntF (pnOf ps) (k + 1) j : Nat))) ⟨by omega, none, none, Cs, fun _ => [], rfl, o4, ⟨rfl, fun k h1 h2 => by omega⟩, hCl, fun j hj => by
      have e := getE (l := Cs) (i := j) (by omega)
      rw [e, hCs j _ e]
      rw [cnt_step]
      have : isKid (pnOf ps) j 0 = false := by unfold isKid; simp
      rw [this]
      rfl⟩ (fun _ _ _ _ => rfl) ?_ ?_
  · rintro k d ρ h' hd ⟨hkn, o3', o4', Cs, q, rfl, o, hq, hCl, hC⟩
    obtain ⟨hk, rfl⟩ := rangeD_get hd
    refine ⟨_, rfl, ?_⟩
    dsimp only [List.set]
    have e1 : (1 : Int) + (k : Int) = ((k + 1 : Nat) : Int) := by omega
    rw [e1]
    have hmn : k + 1 < ps.length := by omega
    have e3 := getE (l := ps) (i := k + 1) hmn
    have a5 : atI (ps.map D.int) ((k + 1 : Nat) : Int) = some (.int (pnOf ps (k + 1) : Int)) := atI_at (by rw [List.getElem?_map, e3]; exact congrArg some (congrArg D.int (hp.val e3)))
    have hpm := hpn (k + 1) (by omega) hmn
    have hpk : PnOk (pnOf ps) (k + 2) := fun j h0 h1 => hpn j h0 (by omega)
    walk_at "go"
    have a6 : atI ((List.range (k + 1)).map fun k => D.tup ((q k).map .int)) (pnOf ps (k + 1) : Int) = some _ := atI_at (by rw [List.getElem?_map, List.getElem?_range hpm]; rfl)
    walk_at "go"
    have a7 := atI_at (hC (pnOf ps (k + 1)) (by omega))
    walk_at "go"
    have hql := pl_len (fun j h0 h1 => hpn j h0 (by omega)) hq (pnOf ps (k + 1)) (pnOf ps (k + 1)) (Nat.le_refl _) (by omega)
    refine w_addT (by simp; omega) ?_
    walk_at "go"
    refine o_app o 1 rfl (by simp; omega) fun h5 o5 => ?_
    dsimp only [List.set] at o5
    walk_at "go"
    refine o_set o5 0 rfl (m := pnOf ps (k + 1)) (by rw [ixN_at (by omega)]) fun h6 o6 => ?_
    dsimp only [List.set] at o6
    have eF : ((List.range (k + 1)).map fun k => D.tup ((q k).map .int)) ++ [.tup ((q (pnOf ps (k + 1))).map .int ++ [.int (cntF (pnOf ps) (k + 1) (pnOf ps (k + 1)) : Nat)])] = (List.range (k + 1 + 1)).map fun j => D.tup (((fun i => if i = k + 1 then q (pnOf ps (k + 1)) ++ [(cntF (pnOf ps) (k + 1) (pnOf ps (k + 1)) : Int)] else q i) j).map .int) := by
      rw [List.range_succ (n := k + 1), List.map_append]
      congr 1
      · refine List.map_congr_left fun i hi => ?_
        rw [List.mem_range] at hi
        dsimp only
        rw [if_neg (by omega)]
      · simp
    rw [eF] at o6
    refine ⟨by omega, _, _, _, _, rfl, o6, hq.put hpk (by omega), by simp [hCl], fun j hj => ?_⟩
    rw [cnt_step (k := k + 1)]
    by_cases e : j = pnOf ps (k + 1)
    · subst e
      rw [List.getElem?_set_self (by omega), if_pos (by unfold isKid; simp)]
      rfl
    · rw [List.getElem?_set_ne (Ne.symm e), hC j hj, if_neg (by unfold isKid; simp; omega)]
      rfl
  · rintro ρ h' ⟨hkn, o3', o4', Cs, q, rfl, o, hq, hCl, hC⟩
    rw [rangeD_length] at o hq
    have e : ((ps.length : Int) - 1).toNat + 1 = ps.length := by omega
    rw [e] at o hq
    walk_at "go"
    exact ⟨iF, q, rfl, o.tail, hq⟩
/-! ### the program's defs -/
end
section
open PySem L2

theorem Scal.eqT {α : Type} {S : α → Prop} {f : α → D} {g : α → PyData} (c : Scal S f g) [DecidableEq α] {h : MH} {l m : List α} (hl : ∀ a ∈ l, S a) (hm : ∀ a ∈ m, S a) : eqD (.tup (l.map f)) (.tup (m.map f)) h = some (decide (l = m)) := by
  have py : ∀ (l : List α), (allSome ((l.map f).map (pyOf 199 h))) = some (l.map g) := fun l => by
    rw [List.map_map, ← allSome_map g l]
    congr 1
    exact List.map_congr_left fun a _ => c.py 198 h a
  have sh : ∀ (l : List α), (∀ a ∈ l, S a) → shapedX (.tuple (l.map g)) = true := fun l hl => by
    obtain ⟨h1, h2⟩ := c.all hl
    simp only [shapedX, PyData.canLay0, PyData.depth, h1, h2]
    rfl
  unfold eqD
  rw [if_neg (by simp [scalD])]
  simp only [pyOf, py, Option.map_some, sh l hl, sh m hm, true_and, if_true, PyData.eqv, c.eq]
theorem eqT_int {h : MH} (l m : List Int) : eqD (.tup (l.map .int)) (.tup (m.map .int)) h = some (decide (l = m)) := scal_int.eqT (fun _ _ => trivial) fun _ _ => trivial
/-- all documents in reach have few children -/
def Doc.thin (d : Doc) : Prop := ∀ pl c, d.at pl = some c → c.ks.length ≤ 1000
end
end Mi


/-! Lists and tuples many times. -/
namespace Mi
open PySem PySem.Spec PyProof.Rows L2
section
variable {X : Cx}
/-- a tuple of one item so many times -/
def rRepF (K : PySem.W.Frag) : R2 := fun x y H Q => ∃ l k z, x = .ref l ∧ y = .int k ∧ SqT K H l [z] ∧ 1 ≤ k ∧ k ≤ 1000 ∧
  (k = 1 → Q (.ref l) H) ∧ (2 ≤ k → ∀ (p : Addr) (ob : Obj), H p = none → ob.dict = none → Q (.ref p) (upd H p (.frz ob (.tup (List.replicate k.toNat [z]).flatten))))
end
def dRep : D → D → MH → R D
  | .ref i, .int n, h => match h[i]? with
    | some (.lst l) => if 0 ≤ n ∧ n ≤ 1000 ∧ l.length ≤ 1000 then .ok (.ref h.length) (h ++ [.lst (List.replicate n.toNat l).flatten]) else .bad
    | _ => .bad
  | .tup [z], .int n, h => if 1 ≤ n ∧ n ≤ 1000 then .ok (.tup (List.replicate n.toNat [z]).flatten) h else .bad
  | _, _, _ => .bad
section
variable {X : Cx} {g : G}
def rRepA (K : PySem.W.Frag) : R2 := fun x y H Q => rRep x y H Q ∨ rRepF K x y H Q
end
end Mi

/-! zip of tuples; sum, max of a list of ints. -/
namespace Mi
open PySem L2
def zipT (x y : D) (h : MH) : R (List D × (MH → Bool)) := match x, y with
  | .tup l, .tup m => .ok (zipD l m, yes) h
  | _, _ => .bad
def mZipT (a b : ME) : MI := fun ρ h => (a ρ h).bind fun x h1 => (b ρ h1).bind fun y h2 => zipT x y h2
section
variable {X : Cx} {g : G} {W : WX} {a b : Expr} {ma mb : ME} {pos : Pos}
end
/-- sum of a list of ints -/
def dSum : List D → MH → R D
  | [.ref i], h => match (getL h i).bind allInt with
    | some ns => .ok (.int ns.sum) h
    | none => .bad
  | _, _ => .bad
def topI : List Int → Int
  | [] => 0
  | [a] => a
  | a :: l => if topI l < a then a else topI l
def dMaxL : List D → MH → R D
  | [.ref i], h => match (getL h i).bind allInt with
    | some ns => if 0 < ns.length then .ok (.int (topI ns)) h else .bad
    | none => .bad
  | _, _ => .bad
section
variable {g : G}
end
/-! the calculus -/
section
variable {Q : D → MH → Prop} {QI : List D × (MH → Bool) → MH → Prop} {E : XE} {ρ : Slots} {h : MH} {a b : ME}
end
end Mi

/-! Dicts with keys (in, get, put, displays of texts); classes of the program: fields, new ones, methods, isinstance; defaults. -/
namespace Mi
open PySem L2 PySem.Spec PyProof.Rows
/-! ### dicts -/
def valD (kvs : List (Key × D)) (k : Key) : Option D := (kvs.find? fun kv => decide (kv.1 = k)).map (·.2)
def putKD (kvs : List (Key × D)) (k : Key) (v : D) : List (Key × D) :=
  if (kvs.any fun kv => decide (kv.1 = k)) = true then kvs.map (fun kv => if kv.1 = k then (kv.1, v) else kv) else kvs ++ [(k, v)]
section
variable {g : G} {H : Hp} {μ : List Addr} {h : MH}
theorem KR.val (k : Key) : ∀ {kv : List (Key × V)} {kvs : List (Key × D)}, KR g H μ kv kvs → (valV kv k = none ∧ valD kvs k = none) ∨ ∃ v d, valV kv k = some v ∧ valD kvs k = some d ∧ VR g H μ v d
  | _, _, .nil => .inl ⟨rfl, rfl⟩
  | _, _, @KR.cons _ _ _ _ k' v d vs ds a b => by
    by_cases e : k' = k
    · refine .inr ⟨v, d, valV_pos e, ?_, a⟩
      simp [valD, List.find?_cons, e]
    · have e2 : valD ((k', d) :: ds) k = valD ds k := by simp [valD, List.find?_cons, e]
      rw [valV_neg (p := (k', v)) e, e2]
      exact KR.val k b
theorem KR.any (k : Key) : ∀ {kv : List (Key × V)} {kvs : List (Key × D)}, KR g H μ kv kvs → (kv.any fun p => decide (p.1 = k)) = kvs.any fun p => decide (p.1 = k)
  | _, _, .nil => rfl
  | _, _, .cons a b => by rw [List.any_cons, List.any_cons, KR.any k b]
theorem KR.repl (k : Key) {y : V} {u : D} (r : VR g H μ y u) : ∀ {kv : List (Key × V)} {kvs : List (Key × D)}, KR g H μ kv kvs → KR g H μ (kv.map fun p => if p.1 = k then (p.1, y) else p) (kvs.map fun p => if p.1 = k then (p.1, u) else p)
  | _, _, .nil => .nil
  | _, _, @KR.cons _ _ _ _ k' v d vs ds a b => by
    rw [List.map_cons, List.map_cons]
    by_cases e : k' = k
    · simp only [e, if_true]
      exact .cons r (KR.repl k r b)
    · simp only [e, if_false]
      exact .cons a (KR.repl k r b)
theorem KR.snoc {κ : Type} {k : κ} {y : V} {u : D} (r : VR g H μ y u) : ∀ {kv : List (κ × V)} {kvs : List (κ × D)}, KR g H μ kv kvs → KR g H μ (kv ++ [(k, y)]) (kvs ++ [(k, u)])
  | _, _, .nil => .cons r .nil
  | _, _, .cons a b => .cons a (KR.snoc r b)
theorem KR.put (k : Key) {y : V} {u : D} (r : VR g H μ y u) {kv : List (Key × V)} {kvs : List (Key × D)} (h : KR g H μ kv kvs) : KR g H μ (putK kv k y) (putKD kvs k u) := by
  unfold putK putKD
  rw [h.any k]
  split
  · exact h.repl k r
  · exact h.snoc r
theorem KR.len {κ : Type} : ∀ {kv : List (κ × V)} {kvs : List (κ × D)}, KR g H μ kv kvs → kv.length = kvs.length
  | _, _, .nil => rfl
  | _, _, .cons _ b => by rw [List.length_cons, List.length_cons, KR.len b]
def getK (h : MH) (x : D) : Option (List (Key × D)) := match x with
  | .ref i => match h[i]? with
    | some (.dK l) => some l
    | _ => none
  | _ => none
end
def dDIn (a b : D) (h : MH) : R D := match keyD a, getK h b with
  | some k, some l => .ok (.bl (valD l k).isSome) h
  | _, _ => .bad
def dDNotIn (a b : D) (h : MH) : R D := match keyD a, getK h b with
  | some k, some l => .ok (.bl (!(valD l k).isSome)) h
  | _, _ => .bad
def dDIx (a b : D) (h : MH) : R D := match getK h a, keyD b with
  | some l, some k => match valD l k with
    | some v => .ok v h
    | none => .bad
  | _, _ => .bad
def dDSet (x y d : D) (h : MH) : R Unit := match x, keyD y, getK h x with
  | .ref i, some k, some l => if l.length < 1000000 then .ok () (h.set i (.dK (putKD l k d))) else .bad
  | _, _, _ => .bad
def mDSet (o i e : ME) : MS := fun ρ h => (e ρ h).out ρ fun d h1 => (o ρ h1).out ρ fun x h2 => (i ρ h2).out ρ fun y h3 => (dDSet x y d h3).out ρ fun _ h4 => .nx ρ h4
def dDLen : List D → MH → R D
  | [x], h => match getK h x with
    | some l => .ok (.int l.length) h
    | none => .bad
  | _, _ => .bad
def rDIn : R2 := fun x y H Q => ∃ a k kvs, x = kV k ∧ y = .ref a ∧ H a = some (.dK kvs) ∧ Q (.bl (valV kvs k).isSome) H
def rDNotIn : R2 := fun x y H Q => ∃ a k kvs, x = kV k ∧ y = .ref a ∧ H a = some (.dK kvs) ∧ Q (.bl (!(valV kvs k).isSome)) H
def rSetD : V → V → V → Hp → (Hp → Prop) → Prop := fun o i v H Q => ∃ a k kvs, o = .ref a ∧ i = kV k ∧ H a = some (.dK kvs) ∧ kvs.length < sizeLine ∧ Q (upd H a (.dK (putK kvs k v)))
section
variable {X : Cx} {g : G} {W : WX}
variable {o i e : Expr} {mo mi me : ME} {pos p2 : Pos}
end
/-! ### displays of texts -/
def mergeD (l : List (Str × Str)) (acc : List (Key × D)) : List (Key × D) := match l with
  | [] => acc
  | p :: r => mergeD r (putKD acc (.inr p.1) (.str p.2))
def mDictC (l : List (Str × Str)) : ME := fun _ h => .ok (.ref h.length) (h ++ [.dK (mergeD l [])])
section
variable {X : Cx} {g : G} {W : WX} {pos : Pos}
def trsC (g : G) (W : WX) (l : List (Str × Str)) : List (TE × TE) := l.map fun p => (tE g W (mC (.str p.1)), tE g W (mC (.str p.2)))
end
/-! ### classes of the program -/
def insOf (h : MH) (x : D) : Option (Nat × Str × List (Str × D)) := match x with
  | .ref i => match h[i]? with
    | some (.ins c fs) => some (i, c, fs)
    | _ => none
  | _ => none
def putFD (f : Str) (v : D) : List (Str × D) → List (Str × D)
  | [] => [(f, v)]
  | (g, x) :: r => if g = f then (g, v) :: r else (g, x) :: putFD f v r
def mFld (cs : List Str) (f : Str) (a : ME) : ME := fun ρ h => (a ρ h).bind fun x h1 => match insOf h1 x with
  | some (_, c, fs) => if c ∈ cs then match fs.lookup f with
    | some v => .ok v h1
    | none => .bad else .bad
  | none => .bad
def mSetFld (cs : List Str) (f : Str) (o e : ME) : MS := fun ρ h => (e ρ h).out ρ fun d h1 => (o ρ h1).out ρ fun x h2 => match insOf h2 x with
  | some (i, c, fs) => if c ∈ cs ∧ fs.length < 1000 then .nx ρ (h2.set i (.ins c (putFD f d fs))) else .bad
  | none => .bad
def mNew (c : Str) (F : List D → MH → R D) (r : MA) : ME := fun ρ h => (r ρ h).bind fun xs h1 => (F (.ref h1.length :: xs) (h1 ++ [.ins c []])).bind fun y h2 => match y with
  | .non => .ok (.ref h1.length) h2
  | _ => .bad
abbrev MTab := List (Str × (List D → MH → R D))
def mMethI (m : Str) (tab : MTab) (o : ME) (r : MA) : ME := fun ρ h => (o ρ h).bind fun x h1 => match insOf h1 x with
  | some (_, c, fs) => match tab.lookup c with
    | some F => if fs.lookup m = none then (r ρ h1).bind fun xs h2 => F (x :: xs) h2 else .bad
    | none => .bad
  | none => .bad
def mIsC (tab : List (Str × Bool)) (a : ME) : ME := fun ρ h => (a ρ h).bind fun x h1 => match insOf h1 x with
  | some (_, c, _) => match tab.lookup c with
    | some b => .ok (.bl b) h1
    | none => .bad
  | none => .bad
section
variable {g : G} {H : Hp} {μ : List Addr} {h : MH}
theorem KR.lookup (f : Str) : ∀ {fv : List (Str × V)} {fs : List (Str × D)}, KR g H μ fv fs → (fv.lookup f = none ∧ fs.lookup f = none) ∨ ∃ v d, fv.lookup f = some v ∧ fs.lookup f = some d ∧ VR g H μ v d
  | _, _, .nil => .inl ⟨rfl, rfl⟩
  | _, _, @KR.cons _ _ _ _ k v d vs ds a b => by
    rw [List.lookup_cons, List.lookup_cons]
    cases (f == k) with
    | true => exact .inr ⟨v, d, rfl, rfl, a⟩
    | false => exact KR.lookup f b
end
/-- classes with a field: none of their classes has its name -/
def CT (K : PySem.W.Frag) (f : Str) (cs : List Str) : Prop := ∀ c ∈ cs, ∀ C, cmOf K c = some C → Cls K C ∧ NoAttr K C f
def clsB (K : PySem.W.Frag) (C : Addr) : Bool := PySem.W.plainGet K C Str.empty && (PySem.W.hasDictIn K C && (PySem.W.plainOver K C && decide (PySem.W.findIn K (.ref C) "__setattr__" = some (some (.builtin "object.__setattr__")))))
def ctB (K : PySem.W.Frag) (f : Str) (cs : List Str) : Bool := cs.all fun c => match cmOf K c with
  | some C => clsB K C && decide (PySem.W.findIn K (.ref C) f = some none)
  | none => true
/-- isinstance of own classes -/
structure ClsI (K : PySem.W.Frag) (C : Addr) : Prop where
  cl : Cls K C
  ha : PySem.W.findIn K (.ref C) "__class__" = some (some (.builtin "object.__class__"))
  hn : PySem.W.specialIn K (.builtin "object.__class__") "__get__" = some (some (.builtin "getset_descriptor.__get__"))
  ht : PySem.W.takesIn K (.builtin "object.__class__") = some true
  hm : PySem.W.mroIn K C (.type "object") = some true
def clsIB (K : PySem.W.Frag) (C : Addr) : Bool := clsB K C && (decide (PySem.W.findIn K (.ref C) "__class__" = some (some (.builtin "object.__class__"))) &&
  (decide (PySem.W.specialIn K (.builtin "object.__class__") "__get__" = some (some (.builtin "getset_descriptor.__get__"))) && (decide (PySem.W.takesIn K (.builtin "object.__class__") = some true) && decide (PySem.W.mroIn K C (.type "object") = some true))))
def IsC (K : PySem.W.Frag) (mg : Str → Option Value) (y : Str) (l : List (Str × Bool)) : Prop := ∃ D, mg y = some (.ref D) ∧ ∀ c b C, l.lookup c = some b → cmOf K c = some C → ClsI K C ∧ PySem.W.kitOne K (.ref C) (.ref D) = some b
def isCB (K : PySem.W.Frag) (y : Str) (l : List (Str × Bool)) : Bool := match cmOf K y with
  | some D => l.all fun p => match cmOf K p.1 with
    | some C => clsIB K C && (PySem.W.kitOne K (.ref C) (.ref D) == some p.2)
    | none => true
  | none => false
/-- a method of a class -/
def MtOf (P : Program) (w : World) (K : PySem.W.Frag) (mg : Str → Option Value) (base : Heap) (c m : Str) (k : Nat) (F : List D → MH → R D) : Prop :=
  ∀ C, cmOf K c = some C → ∃ f fd ps, Cls K C ∧ Meth K C m f ∧ FnOk P w K mg base (L2.CX P w) k f fd ps (spM (gOf w K) F) ∧ Binds K fd ps []
def Mt (P : Program) (w : World) (K : PySem.W.Frag) (mg : Str → Option Value) (base : Heap) (m : Str) (k : Nat) (tab : MTab) : Prop := ∀ c F, tab.lookup c = some F → MtOf P w K mg base c m k F
/-- a class that is made -/
def MkOf (P : Program) (w : World) (K : PySem.W.Frag) (mg : Str → Option Value) (base : Heap) (c : Str) (k : Nat) (F : List D → MH → R D) : Prop :=
  ∃ C f fd ps, cmOf K c = some C ∧ mg c = some (.ref C) ∧ Mk K C f ∧ FnOk P w K mg base (L2.CX P w) k f fd ps (spM (gOf w K) F) ∧ Binds K fd ps []
section
variable {P : Program} {w : World} {K : PySem.W.Frag} {mg : Str → Option Value} {base : Heap} {m : Str} {k : Nat}
theorem MtOf.mono {c : Str} {F : List D → MH → R D} {j : Nat} (e : MtOf P w K mg base c m j F) (h : j ≤ k) : MtOf P w K mg base c m k F := fun C hC => by
  obtain ⟨f, fd, ps, h2, h3, h4, h5⟩ := e C hC
  exact ⟨f, fd, ps, h2, h3, h4.mono h, h5⟩
theorem Mt.mono {tab : MTab} {j : Nat} (e : Mt P w K mg base m j tab) (h : j ≤ k) : Mt P w K mg base m k tab := fun c F q => (e c F q).mono h
end
section
variable {X : Cx} {W : WX} {a e o : Expr} {es : List Expr} {ma me mo : ME} {mr : MA} {p p2 pos apos : Pos} {f m : Str} {cs : List Str}
end
end Mi

/-! Defs of classes by their texts; defs with defaults. -/
namespace Mi
open PySem L2 PySem.Spec PyProof.Rows
/-- a method as it stands -/
def Dm (K : PySem.W.Frag) (c m qual : Str) (st : Stmt) (ps : List Str) : Prop := ∃ C f fd, cmOf K c = some C ∧ Cls K C ∧ Meth K C m f ∧ Fun K m qual st f fd ∧ Binds K fd ps []
/-- an __init__ as it stands -/
def Di (K : PySem.W.Frag) (mg : Str → Option Value) (c qual : Str) (st : Stmt) (ps : List Str) : Prop := ∃ C f fd, cmOf K c = some C ∧ mg c = some (.ref C) ∧ Mk K C f ∧ Fun K "__init__" qual st f fd ∧ Binds K fd ps []
section
variable {P : Program} {w : World} {K : PySem.W.Frag} {mg : Str → Option Value} {base : Heap} {h : Heap}
theorem MkOf.mono {c : Str} {F : List D → MH → R D} {j k : Nat} (e : MkOf P w K mg base c j F) (h : j ≤ k) : MkOf P w K mg base c k F := by
  obtain ⟨C, f, fd, ps, h1, h2, h3, h4, h5⟩ := e
  exact ⟨C, f, fd, ps, h1, h2, h3, h4.mono h, h5⟩
end
section
variable {P : Program} {w : World} {K : PySem.W.Frag} {mg : Str → Option Value} {base : Heap}
end
/-! ### defaults -/
def vOf : D → V
  | .non => .non | .bl b => .bl b | .int i => .int i | .str x => .str x | _ => .non
def DfD (K : PySem.W.Frag) (mg : Str → Option Value) (x : Str) (st : Stmt) (ps : List Str) (ds : List D) : Prop := ∃ f fd, FunD K x x (defArgs st) (defBody st) (defScope st) (ds.map vOf) [] f fd ∧ mg x = some (.ref f) ∧ ∀ j, j ≤ ds.length → ∃ uds, Vals ((ds.map vOf).drop j) uds ∧ Binds K fd ps uds
def CalD (P : Program) (w : World) (K : PySem.W.Frag) (mg : Str → Option Value) (base : Heap) (x : Str) (k : Nat) (F : List D → MH → R D) (ds : List D) : Prop :=
  ∃ f fd ps, FnOk P w K mg base (L2.CX P w) k f fd ps (spM (gOf w K) F) ∧ mg x = some (.ref f) ∧ PySem.W.keepIn K (.ref f) = true ∧ ∀ j, j ≤ ds.length → ∃ uds, Vals ((ds.map vOf).drop j) uds ∧ Binds K fd ps uds
def mCallD (F : List D → MH → R D) (ds : List D) (r : MA) : ME := fun ρ h => (r ρ h).bind fun xs h1 => F (xs ++ ds) h1
section
variable {P : Program} {w : World} {K : PySem.W.Frag} {mg : Str → Option Value} {base : Heap}
end
section
variable {X : Cx} {W : WX} {e : Expr} {es : List Expr} {mr : MA} {p pos : Pos}
end
end Mi

/-! The calculus for classes, dicts, defaults; cells of one's own of any kind. -/
namespace Mi
open PySem L2
/-! ### cells of any kind -/
abbrev CL := List (Nat × MO)
structure Cel (h0 h : MH) (L : CL) : Prop where
  pre : h0 <+: h
  cell : ∀ p ∈ L, h0.length ≤ p.1 ∧ h[p.1]? = some p.2
  nd : (L.map (·.1)).Nodup
section
variable {h0 h h' h1 : MH} {L M : CL} {i : Nat} {l l' : MO}
theorem Cel.nil (h : MH) : Cel h h [] := ⟨List.prefix_rfl, fun p hp => by simp at hp, List.nodup_nil⟩
theorem Cel.ext (o : Cel h0 h L) (p : h <+: h') : Cel h0 h' L := ⟨o.pre.trans p, fun q hq => ⟨(o.cell q hq).1, pre_get p (o.cell q hq).2⟩, o.nd⟩
theorem Cel.lt (o : Cel h0 h L) {p : Nat × MO} (hp : p ∈ L) : p.1 < h.length := (List.getElem?_eq_some_iff.mp (o.cell p hp).2).1
theorem Cel.add (o : Cel h0 h L) (hi : h0.length ≤ i) (e : h[i]? = some l) (n : ∀ p ∈ L, p.1 ≠ i) : Cel h0 h ((i, l) :: L) :=
  ⟨o.pre, fun q hq => by
    rcases List.mem_cons.mp hq with rfl | hq
    · exact ⟨hi, e⟩
    · exact o.cell q hq, List.nodup_cons.mpr ⟨fun hm => by
      obtain ⟨p, hp, rfl⟩ := List.mem_map.mp hm
      exact n p hp rfl, o.nd⟩⟩
theorem Cel.alloc (o : Cel h0 h L) (x : MO) : Cel h0 (h ++ [x]) ((h.length, x) :: L) :=
  (o.ext (List.prefix_append _ _)).add (o.pre.length_le) (by simp) fun p hp => Nat.ne_of_lt (o.lt hp)
theorem Cel.at (o : Cel h0 h L) (n : Nat) (e : L[n]? = some (i, l)) : h[i]? = some l := (o.cell _ (List.mem_of_getElem? e)).2
theorem Cel.atL {l : List D} (o : Cel h0 h L) (n : Nat) (e : L[n]? = some (i, .lst l)) : getL h i = some l := getL_of (o.at n e)
theorem Cel.isL {l : List D} (o : Cel h0 h L) (n : Nat) (e : L[n]? = some (i, .lst l)) : isListD (.ref i) h = true := by rw [isListD_ref, o.atL n e]; rfl
theorem Cel.setAt (o : Cel h0 h L) (n : Nat) (e : L[n]? = some (i, l)) (l' : MO) : Cel h0 (h.set i l') (L.set n (i, l')) := by
  have hn : n < L.length := (List.getElem?_eq_some_iff.mp e).1
  have en : L[n] = (i, l) := (List.getElem?_eq_some_iff.mp e).2
  have hi : i < h.length := o.lt (List.mem_of_getElem? e)
  have h0i : h0.length ≤ i := (o.cell _ (List.mem_of_getElem? e)).1
  have em : (L.set n (i, l')).map (·.1) = L.map (·.1) := by
    rw [List.map_set]
    refine List.ext_getElem (by simp) fun k h1 h2 => ?_
    rw [List.getElem_set]
    split
    · rename_i q
      subst q
      rw [List.getElem_map, en]
    · rfl
  refine ⟨?_, fun q hq => ?_, by rw [em]; exact o.nd⟩
  · obtain ⟨t, rfl⟩ := o.pre
    rw [List.set_append_right _ _ h0i]
    exact List.prefix_append _ _
  · obtain ⟨k, hk, e2⟩ := List.mem_iff_getElem.mp hq
    rw [List.getElem_set] at e2
    split at e2
    · subst e2
      exact ⟨h0i, by simp [hi]⟩
    · rename_i hne
      have hk' : k < L.length := by simpa using hk
      have hm : q ∈ L := e2 ▸ List.getElem_mem hk'
      refine ⟨(o.cell q hm).1, ?_⟩
      rw [List.getElem?_set_ne]
      · exact (o.cell q hm).2
      · intro z
        have h1 : (L.map (·.1))[n]'(by simpa using hn) = (L.map (·.1))[k]'(by simpa using hk') := by
          rw [List.getElem_map, List.getElem_map, en, e2]
          exact z
        exact hne ((List.getElem_inj o.nd).mp h1)
theorem Cel.trans (o : Cel h0 h L) (o' : Cel h h' M) : Cel h0 h' (M ++ L) := by
  have o2 := o.ext o'.pre
  refine ⟨o2.pre, fun q hq => ?_, ?_⟩
  · rcases List.mem_append.mp hq with hq | hq
    · exact ⟨Nat.le_trans o.pre.length_le (o'.cell q hq).1, (o'.cell q hq).2⟩
    · exact o2.cell q hq
  · rw [List.map_append, List.nodup_append]
    refine ⟨o'.nd, o.nd, fun a ha b hb => ?_⟩
    obtain ⟨p, hp, rfl⟩ := List.mem_map.mp ha
    obtain ⟨q, hq, rfl⟩ := List.mem_map.mp hb
    have h1 := (o'.cell p hp).1
    have h2 := o.lt hq
    omega
theorem Cel.sub (o : Cel h0 h L) (s : M.Sublist L) : Cel h0 h M := ⟨o.pre, fun p hp => o.cell p (s.subset hp), (s.map _).nodup o.nd⟩
theorem Cel.tail {p : Nat × MO} (o : Cel h0 h (p :: L)) : Cel h0 h L := o.sub (List.sublist_cons_self _ _)
theorem Cel.none (o : Cel h0 h L) : Cel h0 h [] := o.sub (List.nil_sublist _)
/-! ### rules -/
variable {Q : D → MH → Prop} {E : XE} {a b o : ME} {r : MA} {ρ : Slots} {N : SP} {T : D → MH → Prop} {B C : SP} {X : SX}
def fldK (cs : List Str) (f : Str) (x : D) (h1 : MH) : R D := match insOf h1 x with
  | some (_, c, fs) => if c ∈ cs then match fs.lookup f with
    | some v => .ok v h1
    | none => .bad else .bad
  | none => .bad
theorem w_fld {cs : List Str} {f : Str} (q : Sat (a ρ h) (fun x h1 => Sat (fldK cs f x h1) Q E) E) : Sat (mFld cs f a ρ h) Q E := Sat.bnd q
theorem insOf_of {c : Str} {fs : List (Str × D)} (e : h[i]? = some (.ins c fs)) : insOf h (.ref i) = some (i, c, fs) := by simp only [insOf, e]
theorem w_fldK {cs : List Str} {f c : Str} {fs : List (Str × D)} {v : D} (e : h[i]? = some (.ins c fs)) (hc : c ∈ cs) (hf : fs.lookup f = some v) (q : Q v h) : Sat (fldK cs f (.ref i) h) Q E := w_eq (by unfold fldK; rw [insOf_of e]; simp only [hc, if_true, hf]) q
def setFldK (cs : List Str) (f : Str) (d x : D) (ρ : Slots) (h2 : MH) : Out := match insOf h2 x with
  | some (i, c, fs) => if c ∈ cs ∧ fs.length < 1000 then .nx ρ (h2.set i (.ins c (putFD f d fs))) else .bad
  | none => .bad
theorem w_setFld {cs : List Str} {f : Str} (q : Sat (b ρ h) (fun d h1 => Sat (a ρ h1) (fun x h2 => OS (setFldK cs f d x ρ h2) N T B C X) fun x fs h => X x fs ρ h) fun x fs h => X x fs ρ h) : OS (mSetFld cs f a b ρ h) N T B C X :=
  Sat.ot (q.monoE (fun _ _ z => Sat.ot z) fun _ _ _ z => z)
theorem w_new {c : Str} {F : List D → MH → R D} (q : Sat (r ρ h) (fun xs h1 => Sat (F (.ref h1.length :: xs) (h1 ++ [.ins c []])) (fun y h2 => y = .non ∧ Q (.ref h1.length) h2) E) E) : Sat (mNew c F r ρ h) Q E :=
  Sat.bnd (q.monoE (fun xs h1 z => Sat.bnd (z.monoE (fun y h2 z => by obtain ⟨rfl, z⟩ := z; exact w_ok z) fun _ _ _ z => z)) fun _ _ _ z => z)
def methK (m : Str) (tab : MTab) (r : MA) (ρ : Slots) (x : D) (h1 : MH) : R D := match insOf h1 x with
  | some (_, c, fs) => match tab.lookup c with
    | some F => if fs.lookup m = none then (r ρ h1).bind fun xs h2 => F (x :: xs) h2 else .bad
    | none => .bad
  | none => .bad
theorem w_methI {m : Str} {tab : MTab} (q : Sat (a ρ h) (fun x h1 => Sat (methK m tab r ρ x h1) Q E) E) : Sat (mMethI m tab a r ρ h) Q E := Sat.bnd q
theorem w_methK {m c : Str} {tab : MTab} {fs : List (Str × D)} {F : List D → MH → R D} (e : h[i]? = some (.ins c fs)) (hF : tab.lookup c = some F) (hl : fs.lookup m = none) (q : Sat (r ρ h) (fun xs h2 => Sat (F (.ref i :: xs) h2) Q E) E) : Sat (methK m tab r ρ (.ref i) h) Q E := by
  unfold methK
  rw [insOf_of e]
  simp only [hF]
  rw [if_pos hl]
  exact Sat.bnd q
def isCK (tab : List (Str × Bool)) (x : D) (h1 : MH) : R D := match insOf h1 x with
  | some (_, c, _) => match tab.lookup c with
    | some b => .ok (.bl b) h1
    | none => .bad
  | none => .bad
theorem w_isC {tab : List (Str × Bool)} (q : Sat (a ρ h) (fun x h1 => Sat (isCK tab x h1) Q E) E) : Sat (mIsC tab a ρ h) Q E := Sat.bnd q
theorem w_isCK {tab : List (Str × Bool)} {c : Str} {fs : List (Str × D)} {k : Bool} (e : h[i]? = some (.ins c fs)) (hk : tab.lookup c = some k) (q : Q (.bl k) h) : Sat (isCK tab (.ref i) h) Q E := w_eq (by unfold isCK; rw [insOf_of e]; simp only [hk]) q
theorem w_callD {F : List D → MH → R D} {ds : List D} (q : Sat (r ρ h) (fun xs h1 => Sat (F (xs ++ ds) h1) Q E) E) : Sat (mCallD F ds r ρ h) Q E := Sat.bnd q
theorem w_mDSet (q : Sat (b ρ h) (fun d h1 => Sat (a ρ h1) (fun x h2 => Sat (o ρ h2) (fun y h3 => Sat (dDSet x y d h3) (fun _ h4 => N ρ h4) fun x fs h => X x fs ρ h) fun x fs h => X x fs ρ h) fun x fs h => X x fs ρ h) fun x fs h => X x fs ρ h) : OS (mDSet a o b ρ h) N T B C X :=
  Sat.ot (q.monoE (fun _ _ z => Sat.ot (z.monoE (fun _ _ z => Sat.ot (z.monoE (fun _ _ z => Sat.ot (z.monoE (fun _ _ z => w_nx z) fun _ _ _ z => z)) fun _ _ _ z => z)) fun _ _ _ z => z)) fun _ _ _ z => z)
theorem mkA {x : Str} {k : List D → MH → R D} {l : MTab} : List.lookup x ((x, k) :: l) = some k := by simp [List.lookup]
theorem mkB {x y : Str} {b : List D → MH → R D} {l : MTab} {r : Option (List D → MH → R D)} (h : (x == y) = false) (q : List.lookup x l = r) : List.lookup x ((y, b) :: l) = r := by rw [List.lookup_cons, h]; exact q
theorem fkA {x : Str} {k : D} {l : List (Str × D)} : List.lookup x ((x, k) :: l) = some k := by simp [List.lookup]
theorem fkB {x y : Str} {b : D} {l : List (Str × D)} {r : Option D} (h : (x == y) = false) (q : List.lookup x l = r) : List.lookup x ((y, b) :: l) = r := by rw [List.lookup_cons, h]; exact q
theorem fkN {x : Str} : List.lookup x ([] : List (Str × D)) = none := rfl
theorem nN_non (h : MH) : dNotN .non .non h = .ok (.bl false) h := by rw [dNotN_ev]; rfl
theorem nN_int (i : Int) (h : MH) : dNotN (.int i) .non h = .ok (.bl true) h := by rw [dNotN_ev]; rfl
theorem nN_tup (l : List D) (h : MH) : dNotN (.tup l) .non h = .ok (.bl true) h := by rw [dNotN_ev]; rfl
theorem iN_tup (l : List D) (h : MH) : dIsN (.tup l) .non h = .ok (.bl false) h := by rw [dIsN_ev]; rfl
theorem iN_non (h : MH) : dIsN .non .non h = .ok (.bl true) h := by rw [dIsN_ev]; rfl
theorem iN_int (i : Int) (h : MH) : dIsN (.int i) .non h = .ok (.bl false) h := by rw [dIsN_ev]; rfl
theorem nN_ref (i : Nat) (h : MH) : dNotN (.ref i) .non h = .ok (.bl true) h := by unfold dNotN; simp
theorem iN_ref (i : Nat) (h : MH) : dIsN (.ref i) .non h = .ok (.bl false) h := by unfold dIsN; simp
end
end Mi

/-! sorted(d) of a dict whose keys are texts; list.clear. -/
namespace Mi
open PySem L2 PySem.Spec PyProof.Rows
def rSortK : List V → Hp → VK → Prop := fun xs H Q => ∃ (a : Addr) (kvs : List (Key × V)) (ys : List Str), xs = [V.ref a] ∧ H a = some (.dK kvs) ∧ kvs.map (·.1) = ys.map Sum.inr ∧ ∀ p, H p = none → Q (.ref p) (upd H p (.lst ((sortS ys).map V.str)))
/-- the keys, all of them texts -/
def strKeys : List (Key × D) → Option (List Str)
  | [] => some []
  | (.inr x, _) :: l => (strKeys l).map (x :: ·)
  | (.inl _, _) :: _ => none
def dSortK : List D → MH → R D
  | [x], h => match getK h x with
    | some l => match strKeys l with
      | some ys => .ok (.ref h.length) (h ++ [.lst ((sortS ys).map .str)])
      | none => .bad
    | none => .bad
  | _, _ => .bad
def dClear : D → List D → MH → R D
  | .ref i, [], h => match h[i]? with
    | some (.lst _) => .ok .non (h.set i (.lst []))
    | _ => .bad
  | _, _, _ => .bad
/-! the calculus -/
end Mi

/-! list.pop(0), list.insert. -/
namespace Mi
open PySem L2 PySem.Spec PyProof.Rows
def dPop0 : D → List D → MH → R D
  | .ref i, [.int 0], h => match h[i]? with
    | some (.lst (d :: l)) => .ok d (h.set i (.lst l))
    | _ => .bad
  | _, _, _ => .bad
/-- list.insert -/
def insD (l : List D) (k : Nat) (d : D) : List D := l.take k ++ d :: l.drop k
end Mi

/-! int(text). -/
namespace Mi
open PySem L2
def dIntS : List D → MH → R D
  | [.str x], h => match PySem.intText? x with
    | some n => if x.length ≤ 640 then .ok (.int n) h else .bad
    | none => .bad
  | _, _ => .bad
section
variable {g : G} {X : Cx}
end
end Mi

/-! Sets of ints and texts: set(xs) of a list, sorted of it, its length. -/
namespace Mi
open PySem L2 PySem.Spec PyProof.Rows
/-! ### what was met, each once -/
instance memK (k : Key) (L : List Key) : Decidable (k ∈ L) := decidable_of_iff ((L.any fun j => decide (j = k)) = true) (by
  rw [List.any_eq_true]
  exact ⟨fun ⟨x, h1, h2⟩ => of_decide_eq_true h2 ▸ h1, fun h => ⟨k, h, decide_eq_true rfl⟩⟩)
def onceK (l : List Key) : List Key := l.foldl (fun L k => if k ∈ L then L else L ++ [k]) []
/-! ### the set in the heap -/
def kyOf (e : Int × Value) : Key := match e.2 with
  | .int k _ => .inl k
  | .str x _ => .inr x
  | _ => .inl 0
def GdE (w : World) (e : Int × Value) : Prop := ∃ k, keyIs k e.2 = true ∧ e.1 = keyH w k
structure SetX (w : World) (h : Heap) (a : Addr) (L : List Key) (o : Obj) (es : Array (Int × Value)) (ep : Nat) (t : SetTable) : Prop where
  ob : h.get? a = some o
  ex : o.ExactSet
  da : o.data = .set es ep t
  gd : ∀ e ∈ es.toList, GdE w e
  pm : (es.toList.map kyOf).Perm L
  nd : L.Nodup
  sz : L.length < scanBound
  ft : t.fits es.size = true
  rs : Ris t.place.toList
  ld : w.params.followText "set-order" = true ∨ t.led = true
def SetL (w : World) (h : Heap) (a : Addr) (L : List Key) : Prop := ∃ o es ep t, SetX w h a L o es ep t
section
variable {P : Program} {w : World} {A : Around} {E : Value → Shared → Prop} {s : Shared} {a : Addr} {L : List Key}
theorem SetX.el {h : Heap} {o : Obj} {es : Array (Int × Value)} {ep : Nat} {t : SetTable} (R : SetX w h a L o es ep t) : ElemsOf (mixKind P w) es.toList := fun e he => by
  obtain ⟨k, h1, h2⟩ := R.gd e he
  refine ⟨⟨k, h1, h2⟩, ?_⟩
  rcases keyIs_shape h1 with ⟨j, t, rfl, q⟩ | ⟨x, t, rfl, q⟩ <;> rw [q] <;> rfl
theorem SetX.len {h : Heap} {o : Obj} {es : Array (Int × Value)} {ep : Nat} {t : SetTable} (R : SetX w h a L o es ep t) : es.size = L.length := by
  rw [← R.pm.length_eq, List.length_map, Array.length_toList]
theorem SetL.keep {h h' : Heap} (R : SetL w h a L) (k : ∀ o, h.get? a = some o → h'.get? a = some o) : SetL w h' a L := by
  obtain ⟨o, es, ep, t, r⟩ := R
  exact ⟨o, es, ep, t, { r with ob := k o r.ob }⟩
end
/-! ### set(xs) -/
section
variable {prog : Program} {w : World} {A : Around} {R : Result → Shared → Prop} {I : Addr} {fp wr : List Addr} {G : Array GenState → Array GenState → Prop} {n : Nat} {Pv : Nat → Value → Prop} {St : Nat → Shared → Prop}
end
def emptyS (w : World) : Obj := { cls := .type "set", dict := none, data := .set #[] 0 (.fresh 0 0 (!w.params.followText "set-order")) }
section
variable {P : Program} {w : World} {A : Around} {E : Value → Shared → Prop} {s : Shared}
set_option maxHeartbeats 3200000 in
end
/-! ### the mirror -/
def keysD : List D → Option (List Key)
  | [] => some []
  | d :: l => match keyD d, keysD l with
    | some k, some r => some (k :: r)
    | _, _ => none
def mLenSet (a : ME) : ME := fun ρ h => (a ρ h).bind fun x h1 => match x with
  | .ref i => match (getL h1 i).bind keysD with
    | some ks => if ks.length < 4000 then .ok (.int (onceK ks).length) h1 else .bad
    | none => .bad
  | _ => .bad
def mSortSet (a : ME) : ME := fun ρ h => (a ρ h).bind fun x h1 => match x with
  | .ref i => match (getL h1 i).bind allStr with
    | some ys => if ys.length < 4000 then .ok (.ref h1.length) (h1 ++ [.lst ((sortS (ys.eraseDups)).map .str)]) else .bad
    | none => .bad
  | _ => .bad
section
variable {g : G} {H : Hp} {μ : List Addr}
end
section
variable {X : Cx} {g : G} {W : WX} {ma : ME} {a : Expr} {p p2 q pos : Pos}
end
/-! ### as calls -/
def dLenSet : List D → MH → R D
  | [x], h1 => match x with
    | .ref i => match (getL h1 i).bind keysD with
      | some ks => if ks.length < 4000 then .ok (.int (onceK ks).length) h1 else .bad
      | none => .bad
    | _ => .bad
  | _, _ => .bad
def dSortSet : List D → MH → R D
  | [x], h1 => match x with
    | .ref i => match (getL h1 i).bind allStr with
      | some ys => if ys.length < 4000 then .ok (.ref h1.length) (h1 ++ [.lst ((sortS (ys.eraseDups)).map .str)]) else .bad
      | none => .bad
    | _ => .bad
  | _, _ => .bad
section
variable {X : Cx} {g : G} {W : WX} {ma : ME} {a : Expr} {p p2 q pos : Pos}
end
end Mi

/-! list(d.values()). -/
namespace Mi
open PySem L2 PySem.Spec PyProof.Rows
def mVals (a : ME) : ME := fun ρ h => (a ρ h).bind fun x h1 => match getK h1 x with
  | some l => .ok (.ref h1.length) (h1 ++ [.lst (l.map (·.2))])
  | none => .bad
section
variable {X : Cx} {g : G} {W : WX} {ma : ME} {a : Expr} {p apos q pos : Pos}
end
def dVals : List D → MH → R D
  | [x], h1 => match getK h1 x with
    | some l => .ok (.ref h1.length) (h1 ++ [.lst (l.map (·.2))])
    | none => .bad
  | _, _ => .bad
section
variable {X : Cx} {g : G} {W : WX} {ma : ME} {a : Expr} {p apos q pos : Pos}
end
/-! ### l.index(x), items of any depth -/
def dLIdx : D → List D → MH → R D
  | .ref i, [y], h => match pyOf 60 h y, pyOf 60 h (.ref i) with
    | some d, some (.list es) => if SeqAt.shaped (.list es) = true ∧ SeqAt.shaped d = true then match es.findIdx? fun z => PyData.eqv z d with
      | some j => .ok (.int j) h
      | none => .bad else .bad
    | _, _ => .bad
  | _, _, _ => .bad
end Mi

/-! Dicts whose keys are tuples of whole numbers, texts, None, truths and such tuples: in, not in, d[k], d[k] = v, dict(pairs). -/
namespace Mi
open PySem L2 PySem.Spec PyProof.Rows
/-! ### keys -/
mutual
def NkV (K : PySem.W.Frag) (H : Hp) : NestedKey → V → Prop
  | .none, v => v = .non
  | .num i, v => v = .int i ∨ ∃ b, v = .bl b ∧ i = (if b = true then 1 else 0)
  | .text x, v => v = .str x
  | .tup ks, v => ∃ p xs, v = .ref p ∧ SqT K H p xs ∧ NkVs K H ks xs
def NkVs (K : PySem.W.Frag) (H : Hp) : List NestedKey → List V → Prop
  | [], vs => vs = []
  | k :: ks, vs => ∃ v r, vs = v :: r ∧ NkV K H k v ∧ NkVs K H ks r
end
mutual
theorem nkv_of {g : G} {H : Hp} {μ : List Addr} : ∀ (d : D) (v : V) (k : NestedKey), VR g H μ v d → nkD d = some k → NkV g.K H k v
  | .non, v, k, a, e => by cases a; cases e; exact rfl
  | .bl b, v, k, a, e => by cases a; cases e; exact .inr ⟨b, rfl, rfl⟩
  | .int i, v, k, a, e => by cases a; cases e; exact .inl rfl
  | .str x, v, k, a, e => by cases a; cases e; exact rfl
  | .tup l, v, k, a, e => by
    cases a with
    | tup hs vs =>
      simp only [nkD, Option.map_eq_some_iff] at e
      obtain ⟨ks, e, rfl⟩ := e
      exact ⟨_, _, rfl, hs.sq, nkvs_of l _ ks vs e⟩
  | .ref _, v, k, a, e => by cases e
  | .xo _ _ _, v, k, a, e => by cases e
theorem nkvs_of {g : G} {H : Hp} {μ : List Addr} : ∀ (l : List D) (vs : List V) (ks : List NestedKey), VRs g H μ vs l → nkDs l = some ks → NkVs g.K H ks vs
  | [], vs, ks, a, e => by cases a; cases e; exact rfl
  | d :: l, vs, ks, a, e => by
    cases a with
    | cons a b =>
      unfold nkDs at e
      split at e
      · rename_i k r e1 e2
        cases e
        exact ⟨_, _, rfl, nkv_of d _ k a e1, nkvs_of l _ r b e2⟩
      · cases e
end
section
variable {X : Cx} {pins : List (Addr × Obj)} {σ : L2.St} {H : Hp} {s : Shared}
end
/-! ### the dict in the heap -/
abbrev NE := List (NestedKey × Addr × Value)
def NKeys (K : PySem.W.Frag) (H : Hp) (xs : NE) : Prop := ∀ e ∈ xs, NkV K H e.1 (.ref e.2.1) ∧ e.1.depth ≤ 8
/-- a dict with such keys, or an empty one -/
def NDct (w : World) (H : Hp) (p : Addr) (xs : NE) : Prop := H p = some (DN w p xs) ∨ (H p = some (.dK []) ∧ xs = [])
section
variable {X : Cx} {pins : List (Addr × Obj)} {σ : L2.St} {H : Hp} {s : Shared} {p : Addr} {xs : NE}
end
def rNIn (K : PySem.W.Frag) (w : World) : R2 := fun x y H Q => ∃ a p k xs, x = .ref a ∧ y = .ref p ∧ NkV K H k (.ref a) ∧ k.depth ≤ 8 ∧ NDct w H p xs ∧ NKeys K H xs ∧ Q (.bl (atKey xs k).isSome) H
def rNNotIn (K : PySem.W.Frag) (w : World) : R2 := fun x y H Q => ∃ a p k xs, x = .ref a ∧ y = .ref p ∧ NkV K H k (.ref a) ∧ k.depth ≤ 8 ∧ NDct w H p xs ∧ NKeys K H xs ∧ Q (.bl (!(atKey xs k).isSome)) H
def rNIx (K : PySem.W.Frag) (w : World) : R2 := fun x y H Q => ∃ a p k xs c u v, y = .ref a ∧ x = .ref p ∧ NkV K H k (.ref a) ∧ k.depth ≤ 8 ∧ NDct w H p xs ∧ NKeys K H xs ∧ atKey xs k = some (c, u) ∧ RelV v u ∧ Q v H
def rNSet (K : PySem.W.Frag) (w : World) : V → V → V → Hp → (Hp → Prop) → Prop := fun o i v H Q => ∃ a p k xs, o = .ref p ∧ i = .ref a ∧ NkV K H k (.ref a) ∧ k.depth ≤ 8 ∧ NDct w H p xs ∧ NKeys K H xs ∧ xs.length < sizeLine ∧
  ∀ u, RelV v u → Q (upd H p (DN w p (storedH xs k a u)))
section
variable {X : Cx}
end
/-! ### the mirror -/
def nkT (d : D) : Option NestedKey := match d with
  | .tup l => match nkD (.tup l) with
    | some k => if k.depth ≤ 8 then some k else none
    | none => none
  | _ => none
def getN (h : MH) (x : D) : Option (List (NestedKey × D)) := match x with
  | .ref i => match h[i]? with
    | some (.dN l) => some l
    | some (.dK []) => some []
    | _ => none
  | _ => none
def valN (kvs : List (NestedKey × D)) (k : NestedKey) : Option D := (kvs.find? fun x => decide (x.1 = k)).map (·.2)
def putN (kvs : List (NestedKey × D)) (k : NestedKey) (d : D) : List (NestedKey × D) :=
  if (valN kvs k).isSome = true then kvs.map (fun x => if x.1 = k then (x.1, d) else x) else kvs ++ [(k, d)]
section
variable {g : G} {H : Hp} {μ : List Addr} {h : MH}
theorem NR.keys : ∀ {xs : NE} {kvs : List (NestedKey × D)}, NR g H μ xs kvs → NKeys g.K H xs
  | _, _, .nil => fun e he => by simp at he
  | _, _, .cons a e l r v b => fun x hx => by
    rcases List.mem_cons.mp hx with rfl | hx
    · exact ⟨nkv_of _ _ _ a e, l⟩
    · exact NR.keys b x hx
theorem NR.val (k : NestedKey) : ∀ {xs : NE} {kvs : List (NestedKey × D)}, NR g H μ xs kvs → (atKey xs k = none ∧ valN kvs k = none) ∨ ∃ a u v d, atKey xs k = some (a, u) ∧ valN kvs k = some d ∧ RelV v u ∧ VR g H μ v d
  | _, _, .nil => .inl ⟨rfl, rfl⟩
  | _, _, @NR.cons _ _ _ k' a u e d v xs ds va ek l r vd b => by
    by_cases c : k' = k
    · refine .inr ⟨a, u, v, d, ?_, ?_, r, vd⟩
      · simp [atKey, List.find?_cons, c]
      · simp [valN, List.find?_cons, c]
    · have e1 : atKey ((k', a, u) :: xs) k = atKey xs k := by simp [atKey, List.find?_cons, c]
      have e2 : valN ((k', d) :: ds) k = valN ds k := by simp [valN, List.find?_cons, c]
      rw [e1, e2]
      exact NR.val k b
theorem NR.some_eq (k : NestedKey) {xs : NE} {kvs : List (NestedKey × D)} (r : NR g H μ xs kvs) : (atKey xs k).isSome = (valN kvs k).isSome := by
  rcases r.val k with ⟨e1, e2⟩ | ⟨a, u, v, d, e1, e2, _⟩ <;> rw [e1, e2] <;> rfl
theorem NR.repl (k : NestedKey) {u : Value} {v : V} {d : D} (ru : RelV v u) (vd : VR g H μ v d) : ∀ {xs : NE} {kvs : List (NestedKey × D)}, NR g H μ xs kvs → NR g H μ (xs.map (putAt k u)) (kvs.map fun x => if x.1 = k then (x.1, d) else x)
  | _, _, .nil => .nil
  | _, _, @NR.cons _ _ _ k' a u' e d' v' xs ds va ek l r vd' b => by
    rw [List.map_cons, List.map_cons]
    by_cases c : k' = k
    · simp only [putAt, c, if_true]
      exact .cons va (c ▸ ek) (c ▸ l) ru vd (NR.repl k ru vd b)
    · simp only [putAt, c, if_false]
      exact .cons va ek l r vd' (NR.repl k ru vd b)
theorem NR.snoc {k : NestedKey} {a : Addr} {u : Value} {e d : D} {v : V} (va : VR g H μ (.ref a) e) (ek : nkD e = some k) (l : k.depth ≤ 8) (ru : RelV v u) (vd : VR g H μ v d) : ∀ {xs : NE} {kvs : List (NestedKey × D)}, NR g H μ xs kvs → NR g H μ (xs ++ [(k, a, u)]) (kvs ++ [(k, d)])
  | _, _, .nil => .cons va ek l ru vd .nil
  | _, _, .cons a1 e1 l1 r1 v1 b => .cons a1 e1 l1 r1 v1 (NR.snoc va ek l ru vd b)
theorem NR.put {k : NestedKey} {a : Addr} {u : Value} {e d : D} {v : V} (va : VR g H μ (.ref a) e) (ek : nkD e = some k) (l : k.depth ≤ 8) (ru : RelV v u) (vd : VR g H μ v d) {xs : NE} {kvs : List (NestedKey × D)} (r : NR g H μ xs kvs) : NR g H μ (storedH xs k a u) (putN kvs k d) := by
  unfold storedH putN
  rw [r.some_eq k]
  split
  · exact r.repl k ru vd
  · exact r.snoc va ek l ru vd
theorem NR.len : ∀ {xs : NE} {kvs : List (NestedKey × D)}, NR g H μ xs kvs → xs.length = kvs.length
  | _, _, .nil => rfl
  | _, _, .cons _ _ _ _ _ b => by rw [List.length_cons, List.length_cons, NR.len b]
end
def dNIn (a b : D) (h : MH) : R D := match nkT a, getN h b with
  | some k, some l => .ok (.bl (valN l k).isSome) h
  | _, _ => .bad
def dNNotIn (a b : D) (h : MH) : R D := match nkT a, getN h b with
  | some k, some l => .ok (.bl (!(valN l k).isSome)) h
  | _, _ => .bad
def dNIx (a b : D) (h : MH) : R D := match getN h a, nkT b with
  | some l, some k => match valN l k with
    | some v => .ok v h
    | none => .bad
  | _, _ => .bad
def dNSet (x y d : D) (h : MH) : R Unit := match x, nkT y, getN h x with
  | .ref i, some k, some l => if l.length < 1000000 then .ok () (h.set i (.dN (putN l k d))) else .bad
  | _, _, _ => .bad
/-- any key: an int, a text, or a tuple of such -/
def dAIn (a b : D) (h : MH) : R D := match keyD a with
  | some _ => dDIn a b h
  | none => dNIn a b h
def dANotIn (a b : D) (h : MH) : R D := match keyD a with
  | some _ => dDNotIn a b h
  | none => dNNotIn a b h
def dAIx (a b : D) (h : MH) : R D := match keyD b with
  | some _ => dDIx a b h
  | none => dNIx a b h
def dASet (x y d : D) (h : MH) : R Unit := match keyD y with
  | some _ => dDSet x y d h
  | none => dNSet x y d h
def mASet (o i e : ME) : MS := fun ρ h => (e ρ h).out ρ fun d h1 => (o ρ h1).out ρ fun x h2 => (i ρ h2).out ρ fun y h3 => (dASet x y d h3).out ρ fun _ h4 => .nx ρ h4
def rAIn (K : PySem.W.Frag) (w : World) : R2 := fun x y H Q => rDIn x y H Q ∨ rNIn K w x y H Q
def rANotIn (K : PySem.W.Frag) (w : World) : R2 := fun x y H Q => rDNotIn x y H Q ∨ rNNotIn K w x y H Q
def rDIxK : R2 := fun x y H Q => ∃ a k kvs v, x = .ref a ∧ y = kV k ∧ H a = some (.dK kvs) ∧ valV kvs k = some v ∧ Q v H
def rAIx (K : PySem.W.Frag) (w : World) : R2 := fun x y H Q => rDIxK x y H Q ∨ rNIx K w x y H Q
section
variable {X : Cx} {g : G} {W : WX}
variable {o i e : Expr} {mo mi me : ME} {pos p2 : Pos}
end
end Mi

/-! dict(xs) of a list of pairs whose firsts are tuples. -/
namespace Mi
open PySem L2 PySem.Spec PyProof.Rows
/-- a pair as it stands: its address, the key's, the key, the value -/
structure PR4 where
  t : Addr
  a : Addr
  k : NestedKey
  v : V
abbrev PRU := List (PR4 × Value)
def neOf (T : PRU) : NE := T.map fun q => (q.1.k, q.1.a, q.2)
def rDictP (K : PySem.W.Frag) (w : World) : List V → Hp → VK → Prop := fun xs H Q => ∃ (l : Addr) (T : List PR4), xs = [V.ref l] ∧ SqL K H l (T.map fun r => V.ref r.t) ∧ (∀ r ∈ T, SqT K H r.t [V.ref r.a, r.v] ∧ NkV K H r.k (.ref r.a) ∧ r.k.depth ≤ 8) ∧ T.length < sizeLine ∧
  ∀ p (TU : PRU), H p = none → TU.map (·.1) = T → (∀ x ∈ TU, RelV x.1.v x.2) → Q (.ref p) (upd H p (DN w p (PySem.storedAllH [] (neOf TU))))
section
variable {X : Cx}
end
/-! ### the mirror -/
def pairsN : List D → Option (List (NestedKey × D))
  | [] => some []
  | .tup [kd, vd] :: l => match nkT kd, pairsN l with
    | some k, some r => some ((k, vd) :: r)
    | _, _ => none
  | _ :: _ => none
def foldN (acc : List (NestedKey × D)) (l : List (NestedKey × D)) : List (NestedKey × D) := l.foldl (fun a p => putN a p.1 p.2) acc
def dDictP : List D → MH → R D
  | [.ref i], h => match (getL h i).bind pairsN with
    | some l => if l.length < 1000000 then .ok (.ref h.length) (h ++ [.dN (foldN [] l)]) else .bad
    | none => .bad
  | _, _ => .bad
inductive PRR (g : G) (H : Hp) (μ : List Addr) : List PR4 → List (NestedKey × D) → Prop
  | nil : PRR g H μ [] []
  | cons {r : PR4} {e d : D} {T : List PR4} {l : List (NestedKey × D)} : VR g H μ (.ref r.a) e → nkD e = some r.k → r.k.depth ≤ 8 → VR g H μ r.v d → PRR g H μ T l → PRR g H μ (r :: T) ((r.k, d) :: l)
section
variable {g : G} {H H1 : Hp} {μ μ1 : List Addr}
theorem PRR.mono (m : Mon g H H1 μ μ1) : ∀ {T : List PR4} {l : List (NestedKey × D)}, PRR g H μ T l → PRR g H1 μ1 T l
  | _, _, .nil => .nil
  | _, _, .cons a b c d e => .cons (a.mono m) b c (d.mono m) (PRR.mono m e)
theorem PRR.len : ∀ {T : List PR4} {l : List (NestedKey × D)}, PRR g H μ T l → T.length = l.length
  | _, _, .nil => rfl
  | _, _, .cons _ _ _ _ e => by rw [List.length_cons, List.length_cons, PRR.len e]
end
/-! ### the calculus -/
end Mi

/-! A def of a class, called through the class: Base.__init__(self). -/
namespace Mi
open PySem L2 PySem.Spec PyProof.Rows ClX
def Dc (K : PySem.W.Frag) (mg : Str → Option Value) (c x qual : Str) (st : Stmt) (ps : List Str) : Prop :=
  ∃ C mc f fd, mg c = some (.ref C) ∧ CRead K C mc ∧ PySem.W.findCls K (.ref C) mc x = some (.val (.ref f)) ∧ Fun K x qual st f fd ∧ Binds K fd ps []
def CfOf (P : Program) (w : World) (K : PySem.W.Frag) (mg : Str → Option Value) (base : Heap) (c x : Str) (k : Nat) (F : List D → MH → R D) : Prop :=
  ∃ C mc f fd ps, mg c = some (.ref C) ∧ CRead K C mc ∧ PySem.W.findCls K (.ref C) mc x = some (.val (.ref f)) ∧ PySem.W.keepIn K (.ref f) = true ∧ FnOk P w K mg base (L2.CX P w) k f fd ps (spM (gOf w K) F) ∧ Binds K fd ps []
section
variable {P : Program} {w : World} {K : PySem.W.Frag} {mg : Str → Option Value} {base : Heap} {h : Heap}
theorem CfOf.mono {c x : Str} {F : List D → MH → R D} {j k : Nat} (e : CfOf P w K mg base c x j F) (h : j ≤ k) : CfOf P w K mg base c x k F := by
  obtain ⟨C, mc, f, fd, ps, h1, h2, h3, h4, h5, h6⟩ := e
  exact ⟨C, mc, f, fd, ps, h1, h2, h3, h4, h5.mono h, h6⟩
end
section
variable {X : Cx} {W : WX} {e : Expr} {es : List Expr} {mr : MA} {p pos apos : Pos} {c x : Str}
end
end Mi

/-! list.insert(i, x), list.pop(i), i not below 0. -/
namespace Mi
open PySem L2 PySem.Spec PyProof.Rows
def rInsert : V → List V → Hp → VK → Prop := fun x vs H Q => ∃ (l : Addr) (xs : List V) (i : Int) (y : V), x = .ref l ∧ vs = [.int i, y] ∧ H l = some (.lst xs) ∧ xs.length < sizeLine ∧ 0 ≤ i ∧ i < 2 ^ 63 ∧
    Q .non (upd H l (.lst (xs.take i.toNat ++ [y] ++ xs.drop i.toNat)))
theorem VRs.at {g : G} {H : Hp} {μ : List Addr} : ∀ {vs : List V} {ds : List D} {n : Nat} {d : D}, VRs g H μ vs ds → ds[n]? = some d → ∃ v, vs[n]? = some v ∧ VR g H μ v d
  | _, _, n, d, .nil, e => by simp at e
  | _, _, 0, d, .cons a b, e => by simp at e; subst e; exact ⟨_, rfl, a⟩
  | _, _, n + 1, d, .cons a b, e => by
    obtain ⟨v, h1, h2⟩ := VRs.at (n := n) b (by simpa using e)
    exact ⟨v, by simpa using h1, h2⟩
def dInsert : D → List D → MH → R D
  | .ref i, [.int k, d], h => match h[i]? with
    | some (.lst l) => if (0 ≤ k ∧ k < 9223372036854775808) ∧ l.length < 1000000 then .ok .non (h.set i (.lst (l.take k.toNat ++ [d] ++ l.drop k.toNat))) else .bad
    | _ => .bad
  | _, _, _ => .bad
def dPopI : D → List D → MH → R D
  | .ref i, [.int k], h => match h[i]? with
    | some (.lst l) => if 0 ≤ k ∧ k < 9223372036854775808 then match l[k.toNat]? with
      | some d => .ok d (h.set i (.lst (l.eraseIdx k.toNat)))
      | none => .bad else .bad
    | _ => .bad
  | _, _, _ => .bad
/-! ### the calculus -/
end Mi

/-! t[::-1], a tuple or a list. -/
namespace PySem.W
open PySem.Calls PyProof.Rows HT
end PySem.W
namespace Mi
open PySem L2 PySem.Spec PyProof.Rows PySem.W HT
section
variable {prog : Program} {w : World} {A : Around} {E : Value → Shared → Prop} {s : Shared}
end
def tRevT (K : PySem.W.Frag) (te : TE) : TE := fun σ H Q => te σ H fun x H1 => ∃ a xs, x = .ref a ∧ SqT K H1 a xs ∧ ∀ (p : Addr) (ob : Obj), H1 p = none → ob.dict = none → Q (.ref p) (upd H1 p (.frz ob (.tup xs.reverse)))
def dRevA (x : D) (h : MH) : R D := match x with
  | .tup l => .ok (.tup l.reverse) h
  | x => dRevL x h
def mRevA (a : ME) : ME := mUn dRevA a
end Mi

/-! A comprehension over a dict's keys (the dict is locked as long as it runs); sorted and min of a list of pairs of whole numbers; sorted of a tuple of texts. -/
namespace Mi
open PySem L2 PySem.Spec PyProof.Rows
/-! ### what stands on when a locked thing is free again -/
structure Mn (g : G) (H H' : Hp) (μ μ' : List Addr) : Prop where
  pre : μ <+: μ'
  tups : ∀ p xs, Tk g.K H p xs → Tk g.K H' p xs
  xs : ∀ p u, isX p u → H p = some u → H' p = some u
section
variable {g : G} {H H1 : Hp} {μ μ1 : List Addr}
mutual
theorem VR.mn (m : Mn g H H1 μ μ1) : ∀ {v : V} {d : D}, VR g H μ v d → VR g H1 μ1 v d
  | _, _, .non => .non
  | _, _, .bl b => .bl b
  | _, _, .int i => .int i
  | _, _, .str x => .str x
  | _, _, .ref h => .ref (by
      obtain ⟨t, e⟩ := m.pre
      rw [← e, List.getElem?_append_left (List.getElem?_eq_some_iff.mp h).1]
      exact h)
  | _, _, .tup h hs => .tup (m.tups _ _ h) (VRs.mn m hs)
  | _, _, .xo h c f v => .xo (m.xs _ _ (.inl ⟨_, _, rfl⟩) h) c (by
      rcases f with f | ⟨dd, fv, e1, e2, e3⟩
      · exact .inl f
      · exact .inr ⟨dd, fv, e1, m.xs _ _ (.inr ⟨_, rfl⟩) e2, e3⟩) (VR.mn m v)
theorem VRs.mn (m : Mn g H H1 μ μ1) : ∀ {vs : List V} {ds : List D}, VRs g H μ vs ds → VRs g H1 μ1 vs ds
  | _, _, .nil => .nil
  | _, _, .cons a b => .cons (VR.mn m a) (VRs.mn m b)
end
theorem KR.mn {κ : Type} (m : Mn g H H1 μ μ1) : ∀ {vs : List (κ × V)} {ds : List (κ × D)}, KR g H μ vs ds → KR g H1 μ1 vs ds
  | _, _, .nil => .nil
  | _, _, .cons a b => .cons (a.mn m) (KR.mn m b)
theorem NR.mn (m : Mn g H H1 μ μ1) : ∀ {xs : List (NestedKey × Addr × Value)} {ds : List (NestedKey × D)}, NR g H μ xs ds → NR g H1 μ1 xs ds
  | _, _, .nil => .nil
  | _, _, .cons a e l r v b => .cons (a.mn m) e l r (v.mn m) (NR.mn m b)
theorem TR.mn (m : Mn g H H1 μ μ1) : ∀ {xs : List (NestedKey × Addr × Value)} {ds : List (D × D)}, TR g H μ xs ds → TR g H1 μ1 xs ds
  | _, _, .nil => .nil
  | _, _, .cons a e l r v b => .cons (a.mn m) e l r (v.mn m) (TR.mn m b)
theorem OR.mn_at {p : Addr} {o : MO} (m : Mn g H H1 μ μ1) (k : ∀ u, H p = some u → H1 p = some u) (h : OR g H μ p o) : OR g H1 μ1 p o := by
  cases o with
  | lst ds => obtain ⟨xs, a, b⟩ := h; exact ⟨xs, k _ a, b.mn m⟩
  | rol ds =>
    obtain ⟨xs, a, b⟩ := h
    refine ⟨xs, ?_, b.mn m⟩
    rcases a with ⟨u, a⟩ | a
    · exact .inl ⟨u, k _ a⟩
    · exact .inr a
  | dK kvs => obtain ⟨xs, a, b⟩ := h; exact ⟨xs, k _ a, b.mn m⟩
  | ins c fs => obtain ⟨C, dx, xs, a, c', b⟩ := h; exact ⟨C, dx, xs, k _ a, c', b.mn m⟩
  | dN kvs => obtain ⟨xs, a, b⟩ := h; exact ⟨xs, k _ a, b.mn m⟩
  | fK kvs => obtain ⟨u, xs, a, b⟩ := h; exact ⟨u, xs, k _ a, b.mn m⟩
  | dT kvs => obtain ⟨xs, a, b⟩ := h; exact ⟨xs, k _ a, b.mn m⟩
  | fT kvs => obtain ⟨u, xs, a, b⟩ := h; exact ⟨u, xs, k _ a, b.mn m⟩
/-- a locked dict is free again -/
theorem HR.free {h : MH} {i : Nat} {p : Addr} {od : Obj} {kv : List (Key × V)} {l : List (Key × D)} (r : HR g H μ h) (hi : μ[i]? = some p) (hw : h[i]? = some (.fK l)) (hp : H p = some (.frz od (.dK kv))) (m : Mn g H (upd H p (.dK kv)) μ μ) : HR g (upd H p (.dK kv)) μ (h.set i (.dK l)) := by
  have hlt : i < h.length := (List.getElem?_eq_some_iff.mp hw).1
  refine ⟨by rw [List.length_set]; exact r.len, fun j q v hj hv => ?_, fun j k q v x hj hk hv hx m1 m2 => ?_⟩
  · by_cases e : i = j
    · subst e
      rw [List.getElem?_set_self hlt] at hv
      rw [hi] at hj
      cases hj; cases hv
      obtain ⟨o', kv', e1, kr⟩ := r.ob i p _ hi hw
      rw [hp] at e1
      cases e1
      exact ⟨kv, upd_same, kr.mn m⟩
    · rw [List.getElem?_set_ne e] at hv
      have old := r.ob j q v hj hv
      by_cases eq : q = p
      · subst eq
        cases mv : isMut v with
        | true => exact absurd (r.nd i j q _ v hi hj hw hv rfl mv) e
        | false =>
          cases v with
          | rol ds =>
            obtain ⟨xs, a, b⟩ := old
            refine ⟨xs, ?_, b.mn m⟩
            rcases a with ⟨u', a⟩ | a
            · rw [hp] at a; cases a
            · exact .inr a
          | lst ds => cases mv
          | dK kvs => cases mv
          | ins c fs => cases mv
          | dN kvs => cases mv
          | fK kvs => cases mv
          | dT kvs => cases mv
          | fT kvs => cases mv
      · exact old.mn_at m fun u eu => by rw [upd_ne eq]; exact eu
  · have key : ∀ (j : Nat) (v : MO), (h.set i (.dK l))[j]? = some v → isMut v = true → ∃ v', h[j]? = some v' ∧ isMut v' = true := fun j v hv mv => by
      by_cases e : i = j
      · subst e; exact ⟨_, hw, rfl⟩
      · rw [List.getElem?_set_ne e] at hv; exact ⟨v, hv, mv⟩
    obtain ⟨v', hv', mv'⟩ := key j v hv m1
    obtain ⟨x', hx', mx'⟩ := key k x hx m2
    exact r.nd j k q v' x' hj hk hv' hx' mv' mx'
end
/-! ### the lock -/
def mLock (k : Nat) (m : ME) : ME := fun ρ h => match ρ[k]? with
  | some (some (.ref i)) => match h[i]? with
    | some (.dK l) => (m ρ (h.set i (.fK l))).bind fun y h' => match h'[i]? with
      | some (.fK l') => .ok y (h'.set i (.dK l'))
      | _ => .bad
    | _ => .bad
  | _ => .bad
section
variable {X : Cx} {g : G} {W : WX} {e : Expr} {m : ME}
/-! ### its keys -/
def kD : Key → D
  | .inl i => .int i
  | .inr x => .str x
def mKeysF (ma : ME) : MI := fun ρ h => (ma ρ h).bind fun x h1 => match x with
  | .ref i => match h1[i]? with
    | some (.fK l) => .ok (l.map (fun p => kD p.1), yes) h1
    | _ => .bad
  | _ => .bad
end
end Mi
namespace Mi
open PySem L2 PySem.Spec PyProof.Rows
def leP (p q : Int × Int) : Bool := decide (p.1 < q.1 ∨ (p.1 = q.1 ∧ p.2 ≤ q.2))
def sortP (l : List (Int × Int)) : List (Int × Int) := l.mergeSort leP
def pairD (p : Int × Int) : D := .tup [.int p.1, .int p.2]
def allPair : List D → Option (List (Int × Int))
  | [] => some []
  | .tup [.int a, .int b] :: l => (allPair l).map ((a, b) :: ·)
  | _ => none
def encP (b : Int × Int) : PyData := .tuple [.int b.1, .int b.2]
def PairV (K : PySem.W.Frag) (H : Hp) (x : V) (b : Int × Int) : Prop := ∃ q, x = .ref q ∧ Tk K H q [.int b.1, .int b.2]
abbrev PairsV (K : PySem.W.Frag) (H : Hp) : List V → List (Int × Int) → Prop := PySem.W.EachIs (PairV K H)
def rSortP (K : PySem.W.Frag) : List V → Hp → VK → Prop := fun xs H Q => ∃ p ys bs, xs = [V.ref p] ∧ SqL K H p ys ∧ PairsV K H ys bs ∧ ∀ zs r, PairsV K H zs (sortP bs) → H r = none → Q (.ref r) (upd H r (.lst zs))
section
variable {X : Cx} {pins : List (Addr × Obj)} {σ : L2.St} {H : Hp} {s : Shared}
end
def dSortP : List D → MH → R D
  | [x], h => match x with
    | .ref i => match getL h i with
      | some l => match allPair l with
        | some ps => .ok (.ref h.length) (h ++ [.lst ((sortP ps).map pairD)])
        | none => .bad
      | none => .bad
    | _ => .bad
  | _, _ => .bad
/-! ### sorted of a tuple of texts -/
def rSortTu (K : PySem.W.Frag) : List V → Hp → VK → Prop := fun xs H Q => ∃ p ys, xs = [V.ref p] ∧ SqT K H p (ys.map V.str) ∧ ∀ r, H r = none → Q (.ref r) (upd H r (.lst ((sortS ys).map V.str)))
def dSortTu : List D → MH → R D
  | [x], h => match x with
    | .tup l => match allStr l with
      | some ys => .ok (.ref h.length) (h ++ [.lst ((sortS ys).map .str)])
      | none => .bad
    | _ => .bad
  | _, _ => .bad
end Mi

/-! tuple.index of a whole number. -/
namespace Mi
open PySem L2 PySem.Spec PyProof.Rows
section
variable {X : Cx} {g : G} {W : WX} {a b : Expr} {ma mb : ME} {pos : Pos}
def dTIdxI (x y : D) (h : MH) : R D := match x, y with
  | .tup l, .int k => match allInt l with
    | some ns => if k ∈ ns then .ok (.int (ns.idxOf k : Nat)) h else .bad
    | none => .bad
  | _, _ => .bad
def mTIndexI (a b : ME) : ME := fun ρ h => (a ρ h).bind fun x h1 => match x with
  | .tup l => (b ρ h1).bind fun y h2 => dTIdxI (.tup l) y h2
  | _ => .bad
end
/-! the calculus -/
section
variable {Q : D → MH → Prop} {E : XE} {h : MH} {ρ : Slots}
end
end Mi

/-! list.extend of a tuple. -/
namespace Mi
open PySem L2 PySem.Spec PyProof.Rows
open AutoSeq1 (wpAny_loadPart')
def rExtTu (K : PySem.W.Frag) : V → List V → Hp → VK → Prop := fun x vs H Q => ∃ l b xs zs, x = .ref l ∧ vs = [.ref b] ∧ H l = some (.lst xs) ∧ SqT K H b zs ∧ xs.length + zs.length ≤ sizeLine ∧ Q .non (upd H l (.lst (xs ++ zs)))
def dExtTu : D → List D → MH → R D
  | .ref i, [x], h => match x with
    | .tup m => match h[i]? with
      | some (.lst l) => if l.length + m.length ≤ 1000000 then .ok .non (h.set i (.lst (l ++ m))) else .bad
      | _ => .bad
    | _ => .bad
  | _, _, _ => .bad
end Mi

/-! dict.get and dict.setdefault (keys whole numbers, texts, tuples); min of whole numbers and of pairs of them. -/
namespace Mi
open PySem L2 PySem.Spec PyProof.Rows
def IsDN (w : World) (H : Hp) (a : Addr) : Prop := (∃ kvs, H a = some (.dK kvs)) ∨ ∃ xs, H a = some (DN w a xs)
def rGetA (K : PySem.W.Frag) (w : World) (x y z : V) (H : Hp) (Q : VK) : Prop :=
  (∃ a k kvs, x = .ref a ∧ y = kV k ∧ H a = some (.dK kvs) ∧ Q ((valV kvs k).getD z) H) ∨
  ∃ c p k xs, x = .ref p ∧ y = .ref c ∧ NkV K H k (.ref c) ∧ k.depth ≤ 8 ∧ NDct w H p xs ∧ NKeys K H xs ∧ (∀ c' u, atKey xs k = some (c', u) → ∃ v, RelV v u ∧ Q v H) ∧ (atKey xs k = none → Q z H)
def rSetA (K : PySem.W.Frag) (w : World) (x y z : V) (H : Hp) (Q : VK) : Prop :=
  (∃ a k kvs, x = .ref a ∧ y = kV k ∧ H a = some (.dK kvs) ∧ kvs.length < sizeLine ∧ (∀ v, valV kvs k = some v → Q v H) ∧ (valV kvs k = none → Q z (upd H a (.dK (putK kvs k z))))) ∨
  ∃ c p k xs, x = .ref p ∧ y = .ref c ∧ NkV K H k (.ref c) ∧ k.depth ≤ 8 ∧ NDct w H p xs ∧ NKeys K H xs ∧ xs.length < sizeLine ∧ (∀ c' u, atKey xs k = some (c', u) → ∃ v, RelV v u ∧ Q v H) ∧ (atKey xs k = none → ∀ u, RelV z u → Q z (upd H p (DN w p (storedH xs k c u))))
def tDM2 (w : World) (r : V → V → V → Hp → VK → Prop) (td ty tx : TE) : TE := fun σ H Q => td σ H fun x H1 => ∃ a, x = .ref a ∧ IsDN w H1 a ∧ ty σ H1 fun y H2 => tx σ H2 fun z H3 => r x y z H3 Q
section
variable {X : Cx} {pins : List (Addr × Obj)} {σ : L2.St} {H : Hp} {s : Shared} {a : Addr}
end
section
variable {X : Cx} {o e f : Expr} {td ty tx : TE} {apos cpos : Pos}
end
/-! ### the mirror -/
def isDctD (x : D) (h : MH) : Bool := match x with
  | .ref i => match h[i]? with
    | some (.dK _) => true
    | some (.dN _) => true
    | _ => false
  | _ => false
def dGetA (x y z : D) (h : MH) : R D := match keyD y with
  | some k => match getK h x with
    | some l => .ok ((valD l k).getD z) h
    | none => .bad
  | none => match nkT y, getN h x with
    | some k, some l => .ok ((valN l k).getD z) h
    | _, _ => .bad
def dSetA (x y z : D) (h : MH) : R D := match x with
  | .ref i => match keyD y with
    | some k => match getK h (.ref i) with
      | some l => if l.length < 1000000 then match valD l k with
        | some v => .ok v h
        | none => .ok z (h.set i (.dK (putKD l k z))) else .bad
      | none => .bad
    | none => match nkT y, getN h (.ref i) with
      | some k, some l => if l.length < 1000000 then match valN l k with
        | some v => .ok v h
        | none => .ok z (h.set i (.dN (putN l k z))) else .bad
      | _, _ => .bad
  | _ => .bad
def mDM (F : D → D → D → MH → R D) (o e f : ME) : ME := fun ρ h => (o ρ h).bind fun x h1 => if isDctD x h1 = true then (e ρ h1).bind fun y h2 => (f ρ h2).bind fun z h3 => F x y z h3 else .bad
section
variable {g : G} {H : Hp} {μ : List Addr} {h : MH}
end
def S3 (g : G) (r : V → V → V → Hp → VK → Prop) (F : D → D → D → MH → R D) : Prop := ∀ (H : Hp) (μ : List Addr) (h : MH) (x y z : V) (a b c : D) (Q : VK) (W : XK), HR g H μ h → VR g H μ x a → VR g H μ y b → VR g H μ z c → Bk (VR g) g H μ (F a b c h) Q W → r x y z H Q
section
variable {g : G}
end
section
variable {X : Cx} {W : WX} {o e f : Expr} {mo me mf : ME} {apos cpos : Pos} {r : V → V → V → Hp → VK → Prop} {F : D → D → D → MH → R D}
end
/-! ### min -/
def ltP (p q : Int × Int) : Bool := decide (p.1 < q.1 ∨ (p.1 = q.1 ∧ p.2 < q.2))
def minP : List (Int × Int) → Int × Int
  | [] => (0, 0)
  | b :: bs => bs.foldl (fun a y => if ltP y a then y else a) b
def minI : List Int → Int
  | [] => 0
  | b :: bs => bs.foldl min b
def rMinP (K : PySem.W.Frag) : List V → Hp → VK → Prop := fun xs H Q => ∃ p ys bs, xs = [V.ref p] ∧ SqL K H p ys ∧ PairsV K H ys bs ∧ 0 < bs.length ∧ ∀ z, PairV K H z (minP bs) → Q z H
def rMinA (K : PySem.W.Frag) : List V → Hp → VK → Prop := fun xs H Q => rMin K xs H Q ∨ rMinP K xs H Q
section
variable {X : Cx} {pins : List (Addr × Obj)} {σ : L2.St} {H : Hp} {s : Shared}
end
def dMinA : List D → MH → R D
  | [x], h => match x with
    | .ref i => match (getL h i).bind allInt with
      | some ns => if 0 < ns.length then .ok (.int (minI ns)) h else .bad
      | none => match (getL h i).bind allPair with
        | some ps => if 0 < ps.length then .ok (pairD (minP ps)) h else .bad
        | none => .bad
    | _ => .bad
  | _, _ => .bad
/-! ### x >> y -/
def dShr : D → D → MH → R D
  | .int i, .int j, h => if 0 ≤ j then .ok (.int (i / 2 ^ j.toNat)) h else .bad
  | _, _, _ => .bad
/-! ### the calculus -/
section
variable {Q : D → MH → Prop} {E : XE} {h : MH} {ρ : Slots}
end
end Mi

/-! list(d), sorted(d) of a dict with whole numbers as keys. -/
namespace Mi
open PySem L2 PySem.Spec PyProof.Rows
def leI (a b : Int) : Bool := decide (a ≤ b)
def rSortKI : List V → Hp → VK → Prop := fun xs H Q => ∃ (a : Addr) (kvs : List (Key × V)) (ys : List Int), xs = [V.ref a] ∧ H a = some (.dK kvs) ∧ kvs.map (·.1) = ys.map Sum.inl ∧ ∀ p, H p = none → Q (.ref p) (upd H p (.lst ((sortI ys).map V.int)))
/-- the keys, all of them whole numbers -/
def intKeys : List (Key × D) → Option (List Int)
  | [] => some []
  | (.inl x, _) :: l => (intKeys l).map (x :: ·)
  | (.inr _, _) :: _ => none
def dSortKI : List D → MH → R D
  | [x], h => match getK h x with
    | some l => match intKeys l with
      | some ys => .ok (.ref h.length) (h ++ [.lst ((sortI ys).map .int)])
      | none => .bad
    | none => .bad
  | _, _ => .bad
/-! ### list(d) -/
def rListK : List V → Hp → VK → Prop := fun xs H Q => ∃ (a : Addr) (kvs : List (Key × V)), xs = [V.ref a] ∧ H a = some (.dK kvs) ∧ ∀ p, H p = none → Q (.ref p) (upd H p (.lst (kvs.map fun e => kV e.1)))
def dListK : List D → MH → R D
  | [x], h => match getK h x with
    | some l => .ok (.ref h.length) (h ++ [.lst (l.map fun p => kD p.1)])
    | none => .bad
  | _, _ => .bad
end Mi

/-! sorted of a list of triples of whole numbers -/
namespace Mi
open PySem L2 PySem.Spec PyProof.Rows
def triD (p : Int × Int × Int) : D := .tup [.int p.1, .int p.2.1, .int p.2.2]
def allTri : List D → Option (List (Int × Int × Int))
  | [] => some []
  | .tup [.int a, .int b, .int c] :: l => (allTri l).map ((a, b, c) :: ·)
  | _ => none
def encQ (b : Int × Int × Int) : PyData := .tuple [.int b.1, .int b.2.1, .int b.2.2]
def sortQ (l : List (Int × Int × Int)) : List (Int × Int × Int) := l.mergeSort (PySem.W.dataLe false encQ)
def TriV (K : PySem.W.Frag) (H : Hp) (x : V) (b : Int × Int × Int) : Prop := ∃ q, x = .ref q ∧ Tk K H q [.int b.1, .int b.2.1, .int b.2.2]
abbrev TrisV (K : PySem.W.Frag) (H : Hp) : List V → List (Int × Int × Int) → Prop := PySem.W.EachIs (TriV K H)
def rSortQ (K : PySem.W.Frag) : List V → Hp → VK → Prop := fun xs H Q => ∃ p ys bs, xs = [V.ref p] ∧ SqL K H p ys ∧ TrisV K H ys bs ∧ ∀ zs r, TrisV K H zs (sortQ bs) → H r = none → Q (.ref r) (upd H r (.lst zs))
section
variable {X : Cx} {pins : List (Addr × Obj)} {σ : L2.St} {H : Hp} {s : Shared}
end
def dSortQ : List D → MH → R D
  | [x], h => match x with
    | .ref i => match getL h i with
      | some l => match allTri l with
        | some ps => .ok (.ref h.length) (h ++ [.lst ((sortQ ps).map triD)])
        | none => .bad
      | none => .bad
    | _ => .bad
  | _, _ => .bad
end Mi

/-! dicts with tuple keys whose key objects are kept: d[k] = v, k not in d, list(d) -/
namespace Mi
open PySem L2 PySem.Spec PyProof.Rows
def getT (h : MH) (x : D) : Option (List (D × D)) := match x with
  | .ref i => match h[i]? with
    | some (.dT l) => some l
    | some (.dK []) => some []
    | _ => none
  | _ => none
def valT (kvs : List (D × D)) (k : NestedKey) : Option D := (kvs.find? fun x => decide (nkD x.1 = some k)).map (·.2)
def putT (kvs : List (D × D)) (e : D) (k : NestedKey) (d : D) : List (D × D) :=
  if (valT kvs k).isSome = true then kvs.map (fun x => if nkD x.1 = some k then (x.1, d) else x) else kvs ++ [(e, d)]
section
variable {g : G} {H : Hp} {μ : List Addr} {h : MH}
theorem TR.keys : ∀ {xs : NE} {kvs : List (D × D)}, TR g H μ xs kvs → NKeys g.K H xs
  | _, _, .nil => fun e he => by simp at he
  | _, _, .cons a e l r v b => fun x hx => by
    rcases List.mem_cons.mp hx with rfl | hx
    · exact ⟨nkv_of _ _ _ a e, l⟩
    · exact TR.keys b x hx
theorem TR.val (k : NestedKey) : ∀ {xs : NE} {kvs : List (D × D)}, TR g H μ xs kvs → (atKey xs k = none ∧ valT kvs k = none) ∨ ∃ a u v d, atKey xs k = some (a, u) ∧ valT kvs k = some d ∧ RelV v u ∧ VR g H μ v d
  | _, _, .nil => .inl ⟨rfl, rfl⟩
  | _, _, @TR.cons _ _ _ k' a u e d v xs ds va ek l r vd b => by
    by_cases c : k' = k
    · refine .inr ⟨a, u, v, d, ?_, ?_, r, vd⟩
      · simp [atKey, List.find?_cons, c]
      · simp [valT, List.find?_cons, ek, c]
    · have e1 : atKey ((k', a, u) :: xs) k = atKey xs k := by simp [atKey, List.find?_cons, c]
      have e2 : valT ((e, d) :: ds) k = valT ds k := by simp [valT, List.find?_cons, ek, c]
      rw [e1, e2]
      exact TR.val k b
theorem TR.some_eq (k : NestedKey) {xs : NE} {kvs : List (D × D)} (r : TR g H μ xs kvs) : (atKey xs k).isSome = (valT kvs k).isSome := by
  rcases r.val k with ⟨e1, e2⟩ | ⟨a, u, v, d, e1, e2, _⟩ <;> rw [e1, e2] <;> rfl
theorem TR.repl (k : NestedKey) {u : Value} {v : V} {d : D} (ru : RelV v u) (vd : VR g H μ v d) : ∀ {xs : NE} {kvs : List (D × D)}, TR g H μ xs kvs → TR g H μ (xs.map (putAt k u)) (kvs.map fun x => if nkD x.1 = some k then (x.1, d) else x)
  | _, _, .nil => .nil
  | _, _, @TR.cons _ _ _ k' a u' e d' v' xs ds va ek l r vd' b => by
    rw [List.map_cons, List.map_cons]
    by_cases c : k' = k
    · simp only [putAt, c, ek, if_true]
      exact .cons va (c ▸ ek) (c ▸ l) ru vd (TR.repl k ru vd b)
    · have c2 : ¬ (some k' = some k) := fun z => c (Option.some.inj z)
      simp only [putAt, c, ek, c2, if_false]
      exact .cons va ek l r vd' (TR.repl k ru vd b)
theorem TR.snoc {k : NestedKey} {a : Addr} {u : Value} {e d : D} {v : V} (va : VR g H μ (.ref a) e) (ek : nkD e = some k) (l : k.depth ≤ 8) (ru : RelV v u) (vd : VR g H μ v d) : ∀ {xs : NE} {kvs : List (D × D)}, TR g H μ xs kvs → TR g H μ (xs ++ [(k, a, u)]) (kvs ++ [(e, d)])
  | _, _, .nil => .cons va ek l ru vd .nil
  | _, _, .cons a1 e1 l1 r1 v1 b => .cons a1 e1 l1 r1 v1 (TR.snoc va ek l ru vd b)
theorem TR.put {k : NestedKey} {a : Addr} {u : Value} {e d : D} {v : V} (va : VR g H μ (.ref a) e) (ek : nkD e = some k) (l : k.depth ≤ 8) (ru : RelV v u) (vd : VR g H μ v d) {xs : NE} {kvs : List (D × D)} (r : TR g H μ xs kvs) : TR g H μ (storedH xs k a u) (putT kvs e k d) := by
  unfold storedH putT
  rw [r.some_eq k]
  split
  · exact r.repl k ru vd
  · exact r.snoc va ek l ru vd
theorem TR.len : ∀ {xs : NE} {kvs : List (D × D)}, TR g H μ xs kvs → xs.length = kvs.length
  | _, _, .nil => rfl
  | _, _, .cons _ _ _ _ _ b => by rw [List.length_cons, List.length_cons, TR.len b]
theorem TR.objs : ∀ {xs : NE} {kvs : List (D × D)}, TR g H μ xs kvs → VRs g H μ (xs.map fun x => V.ref x.2.1) (kvs.map (·.1))
  | _, _, .nil => .nil
  | _, _, .cons a _ _ _ _ b => .cons a (TR.objs b)
end
def dTNotIn (a b : D) (h : MH) : R D := match nkT a, getT h b with
  | some k, some l => .ok (.bl (!(valT l k).isSome)) h
  | _, _ => .bad
def dTSet (x y d : D) (h : MH) : R Unit := match x, nkT y, getT h x with
  | .ref i, some k, some l => if l.length < 1000000 then .ok () (h.set i (.dT (putT l y k d))) else .bad
  | _, _, _ => .bad
def mTSet (o i e : ME) : MS := fun ρ h => (e ρ h).out ρ fun d h1 => (o ρ h1).out ρ fun x h2 => (i ρ h2).out ρ fun y h3 => (dTSet x y d h3).out ρ fun _ h4 => .nx ρ h4
def dListT : List D → MH → R D
  | [x], h => match getT h x with
    | some l => .ok (.ref h.length) (h ++ [.lst (l.map (·.1))])
    | none => .bad
  | _, _ => .bad
def rListN (K : PySem.W.Frag) (w : World) : List V → Hp → VK → Prop := fun xs H Q => ∃ (p : Addr) (es : NE), xs = [V.ref p] ∧ NDct w H p es ∧ NKeys K H es ∧ ∀ r, H r = none → Q (.ref r) (upd H r (.lst (es.map fun e => V.ref e.2.1)))
section
variable {X : Cx} {g : G} {W : WX}
variable {o i e : Expr} {mo mi me : ME} {pos p2 : Pos}
end
/-! the calculus -/
section
variable {Q : D → MH → Prop} {E : XE} {h : MH} {ρ : Slots}
end
end Mi

/-! sorted(set(t)) of a tuple of texts -/
namespace Mi
open PySem L2 PySem.Spec PyProof.Rows
section
variable {P : Program} {w : World} {A : Around} {E : Value → Shared → Prop} {s : Shared}
set_option maxHeartbeats 3200000 in
end
def mSortSetT (a : ME) : ME := fun ρ h => (a ρ h).bind fun x h1 => match x with
  | .tup l => match allStr l with
    | some ys => if ys.length < 4000 then .ok (.ref h1.length) (h1 ++ [.lst ((sortS (ys.eraseDups)).map .str)]) else .bad
    | none => .bad
  | _ => .bad
section
variable {X : Cx} {g : G} {W : WX} {ma : ME} {a : Expr} {p p2 q pos : Pos}
end
def dSortSetT : List D → MH → R D
  | [x], h1 => match x with
    | .tup l => match allStr l with
      | some ys => if ys.length < 4000 then .ok (.ref h1.length) (h1 ++ [.lst ((sortS (ys.eraseDups)).map .str)]) else .bad
      | none => .bad
    | _ => .bad
  | _, _ => .bad
section
variable {X : Cx} {g : G} {W : WX} {ma : ME} {a : Expr} {p p2 q pos : Pos}
end
end Mi

/-! max(l, default=d); == of deep data -/
namespace Mi
open PySem L2 PySem.Spec PyProof.Rows
def rMaxD (K : PySem.W.Frag) (a d : V) (H : Hp) (Q : VK) : Prop := ∃ p ns, a = .ref p ∧ SqL K H p (ns.map .int) ∧ (ns = [] → Q d H) ∧ ∀ n r, ns = n :: r → Q (.int (r.foldl max n)) H
section
variable {X : Cx} {x : Str} {p pos kpos : Pos} {e o : Expr} {te tk : TE}
end
def dMaxD : D → D → MH → R D
  | .ref i, d, h => match (getL h i).bind allInt with
    | some [] => .ok d h
    | some (n :: r) => .ok (.int (r.foldl max n)) h
    | none => .bad
  | _, _, _ => .bad
section
variable {X : Cx} {g : G} {W : WX} {a o : Expr} {ma mo : ME} {pos p kpos : Pos} {x : Str}
end
/-! ### == of deep data -/
def eqX (a b : D) (h : MH) : Option Bool := match pyOf 200 h a, pyOf 200 h b with
  | some d, some e => if shapedX d = true ∧ shapedX e = true then some (PyData.eqv d e) else none
  | _, _ => none
def dEqX (a b : D) (h : MH) : R D := match eqX a b h with
  | some k => .ok (.bl k) h
  | none => .bad
def dNeX (a b : D) (h : MH) : R D := match eqX a b h with
  | some k => .ok (.bl (!k)) h
  | none => .bad
section
variable {g : G} {H : Hp} {μ : List Addr} {h : MH}
end
end Mi

/-! text methods: split(sep), strip(chars), startswith(prefix); list.count of ints -/
namespace Mi
open PySem L2 PySem.Spec PyProof.Rows
def dSplit : D → List D → MH → R D
  | .str a, [.str b], h => if (b.length == 0) = false ∧ a.length ≤ 900000 then .ok (.ref h.length) (h ++ [.lst ((Txt.split a b).map .str)]) else .bad
  | _, _, _ => .bad
def dStripC : D → List D → MH → R D
  | .str a, [.str b], h => if a.length ≤ 900000 then .ok (.str (Txt.stripChars a b)) h else .bad
  | _, _, _ => .bad
def dStartsw : D → List D → MH → R D
  | .str a, [.str b], h => .ok (.bl (Txt.startswith a b)) h
  | _, _, _ => .bad
def dLCount : D → List D → MH → R D
  | .ref i, [.int k], h => match (getL h i).bind allInt with
    | some ns => .ok (.int (ns.count k : Nat)) h
    | none => .bad
  | _, _, _ => .bad
section
variable {g : G}
end
section
variable {h : MH} {Q : D → MH → Prop} {E : XE} {x y : Str}
end
end Mi

/-! comprehensions over triples; sorted of texts, of any number -/
namespace Mi
open PySem L2 PySem.Spec PyProof.Rows
def rSortT (K : PySem.W.Frag) : List V → Hp → VK → Prop := fun xs H Q => ∃ p ys, xs = [V.ref p] ∧ SqL K H p (ys.map V.str) ∧ ∀ r, H r = none → Q (.ref r) (upd H r (.lst ((sortS ys).map V.str)))
section
variable {X : Cx}
end
def dSortT : List D → MH → R D
  | [x], h => match x with
    | .ref i => match (getL h i).bind allStr with
      | some ys => .ok (.ref h.length) (h ++ [.lst ((sortS ys).map .str)])
      | none => .bad
    | _ => .bad
  | _, _ => .bad
end Mi

/-! {k: v} where k is a tuple. -/
namespace Mi
open PySem L2 PySem.Spec PyProof.Rows
open PySem.Sem (wp)
section
variable {prog : Program} {w : World} {K : Type} [DecidableEq K] {knd : HeapKind prog w K} {A : Around} {E : Value → Shared → Prop} {s : Shared}
end
def tDisp1N (K : PySem.W.Frag) (w : World) (trs : List (TE × TE)) : TE := fun σ H Q => ∀ p, H p = none → tPairs trs σ (upd H p (.dK [])) fun ps H2 => H2 p = some (.dK []) ∧ ∃ a y k, ps = [(.ref a, y)] ∧ NkV K H2 k (.ref a) ∧ k.depth ≤ 8 ∧ ∀ u, RelV y u → Q (.ref p) (upd H2 p (DN w p [(k, a, u)]))
def mDict1N (k v : ME) : ME := fun ρ h => (k ρ (h ++ [.dK []])).bind fun x h1 => (v ρ h1).bind fun y h2 => if h2[h.length]? = some (.dK []) then match nkT x with
  | some kk => .ok (.ref h.length) (h2.set h.length (.dN [(kk, y)]))
  | none => .bad else .bad
end Mi

/-! zip of a tuple and a list. -/
namespace Mi
open PySem L2 PySem.Spec PyProof.Rows
open PySem.Sem (wp)
/-- the tuple at a and the list at b as they stand at each turn, the items in new pairs -/
def ItzM (K : PySem.W.Frag) (a b : Addr) : L2.It :=
  ⟨fun i H => ∃ (xs ys : List V) (x y : V), SqT K H a xs ∧ SqL K H b ys ∧ xs[i]? = some x ∧ ys[i]? = some y,
    fun i H v H' => ∃ T x y, v = .ref T ∧ H T = none ∧ H' = upd H T (.tup [x, y]) ∧ (∀ xs, SqT K H a xs → xs[i]? = some x) ∧ ∀ ys, SqL K H b ys → ys[i]? = some y,
    fun i H => ∃ xs ys : List V, SqT K H a xs ∧ SqL K H b ys ∧ (xs.length ≤ i ∨ ys.length ≤ i)⟩
section
variable {prog : Program} {w : World} {A : Around}
end
def iZipM (K : PySem.W.Frag) (ta : TA) : TI := fun σ H R => ta σ H fun vs H1 => ∃ a b xs ys, vs = [.ref a, .ref b] ∧ SqT K H1 a xs ∧ SqL K H1 b ys ∧ R (ItzM K a b) H1
def zipM (x y : D) (h : MH) : R (List D × (MH → Bool)) := match x, y with
  | .tup l, .ref j => match getL h j with
    | some m => .ok (zipD l m, fun h' => decide (getL h' j = some m)) h
    | none => .bad
  | _, _ => .bad
def mZipM (a b : ME) : MI := fun ρ h => (a ρ h).bind fun x h1 => (b ρ h1).bind fun y h2 => zipM x y h2
section
variable {X : Cx} {g : G} {W : WX} {a b : Expr} {ma mb : ME} {pos : Pos}
end
section
variable {Q : D → MH → Prop} {QI : List D × (MH → Bool) → MH → Prop} {E : XE} {ρ : Slots} {h : MH} {a b : ME}
end
end Mi

/-! a tuple of one thing, none or so many times; long joins -/
namespace Mi
open PySem PySem.Spec PyProof.Rows L2
/-- a tuple of one item no times -/
def rRep0 (K : PySem.W.Frag) : R2 := fun x y H Q => ∃ l z, x = .ref l ∧ y = .int 0 ∧ SqT K H l [z] ∧ ∀ (p : Addr) (ob : Obj), H p = none → ob.dict = none → Q (.ref p) (upd H p (.frz ob (.tup [])))
section
variable {X : Cx}
end
def dRepZ : D → D → MH → R D
  | .tup [z], .int n, h => if n = 0 then .ok (.tup []) h else dRep (.tup [z]) (.int n) h
  | _, _, _ => .bad
section
variable {X : Cx} {g : G}
def rRepZ (K : PySem.W.Frag) : R2 := fun x y H Q => rRepA K x y H Q ∨ rRep0 K x y H Q
end
/-! long joins -/
def dJoinB : D → List D → MH → R D
  | .str a, [b], h => match (seqOf h b).bind allStr with
    | some ys => if (ys.map (·.length)).sum + ys.length * a.length ≤ 16000000 then .ok (.str (Txt.join a ys)) h else .bad
    | none => .bad
  | _, _, _ => .bad
section
variable {g : G}
end
end Mi

/-! range with a step -/
namespace Mi
open PySem L2 PySem.Spec PyProof.Rows
def stepD (i c : Int) (n : Nat) : List D := (List.range n).map fun (k : Nat) => D.int (i + (k : Int) * c)
def dR3 (x y z : D) (h : MH) : R (List D × (MH → Bool)) := match x, y, z with
  | .int i, .int j, .int c => if c ≠ 0 ∧ c.natAbs < 1073741824 ∧ Builtin.Range.small i j c = true ∧ 0 ≤ Builtin.Range.rangeSize i j c then .ok (stepD i c (Builtin.Range.rangeSize i j c).toNat, yes) h else .bad
  | _, _, _ => .bad
def mRange3 (a b c : ME) : MI := fun ρ h => (a ρ h).bind fun x h1 => (b ρ h1).bind fun y h2 => (c ρ h2).bind fun z h3 => dR3 x y z h3
section
variable {X : Cx} {g : G} {W : WX} {a b c : Expr} {ma mb mc : ME} {pos : Pos} {tg : Expr}
end
section
variable {QI : List D × (MH → Bool) → MH → Prop} {E : XE} {h : MH} {ρ : Slots}
end
end Mi

/-! several except clauses, with a name and without. -/
namespace Mi
open PySem L2 PySem.Spec PyProof.Rows
/-- a clause: without a name; with a name in slot i; kept: slot i is the clause's name, slot j the one that keeps it -/
inductive HKd
  | only (ts : Addr → Value → Option Addr → TS)
  | named (i : Nat) (ts : Addr → Value → Option Addr → TS)
  | keep (i j : Nat)
def wHd (K : PySem.W.Frag) (Wo : WX) (D : Ends) : List (Value × HKd) → WX
  | [] => Wo
  | (c, .only ts) :: r => fun cls d σ H => ∃ b, PySem.W.exmOne K cls c = some b ∧ (b = true → ∀ a, H a = none → ts a cls d D σ H) ∧ (b = false → wHd K Wo D r cls d σ H)
  | (c, .named i ts) :: r => fun cls d σ H => ∃ b, PySem.W.exmOne K cls c = some b ∧ (b = true → ∀ a, H a = none → ts a cls d { nx := fun σ' H' => D.nx (σ'.set i none) H', rt := D.rt, bk := fun σ' H' => D.bk (σ'.set i none) H', ct := fun σ' H' => D.ct (σ'.set i none) H' } (σ.set i (some (.ref a))) H) ∧ (b = false → wHd K Wo D r cls d σ H)
  | (c, .keep i j) :: r => fun cls d σ H => ∃ b, PySem.W.exmOne K cls c = some b ∧ (b = true → ∃ C, cls = .ref C ∧ ∀ p, H p = none → D.nx (((σ.set i (some (.ref p))).set j (some (.ref p))).set i none) (upd H p (XOk C d p))) ∧ (b = false → wHd K Wo D r cls d σ H)
inductive HdsA (X : Cx) : List ExceptHandler → List (Value × HKd) → Prop
  | nil : HdsA X [] []
  | only {x : Str} {c : Value} {ts : Addr → Value → Option Addr → TS} {b0 : Stmt} {suite : List Stmt} {qn q0 : Pos} {hds : List ExceptHandler} {l : List (Value × HKd)} (hc : Names X x c)
      (hsu : ∀ (a : Addr) (oe : Obj) (cls : Value) (d : Option Addr) (pn : List (Addr × Obj)), Zc cls d oe → (∃ vs, oe.data = .fields vs) → PSs (X.suite a ((a, oe) :: pn)) (b0 :: suite) (ts a cls d)) (r : HdsA X hds l) :
      HdsA X (.ExceptHandler (some (.Name x qn)) none (b0 :: suite) q0 :: hds) ((c, .only ts) :: l)
  | named {x n : Str} {i : Nat} {c : Value} {ts : Addr → Value → Option Addr → TS} {b0 : Stmt} {suite : List Stmt} {qn q0 : Pos} {hds : List ExceptHandler} {l : List (Value × HKd)} (hc : Names X x c) (hi : X.N[i]? = some n) (hln : X.env.kindOf n = some .local)
      (hsu : ∀ (a : Addr) (oe : Obj) (cls : Value) (d : Option Addr) (pn : List (Addr × Obj)), Zc cls d oe → (∃ vs, oe.data = .fields vs) → PSs (X.suite a ((a, oe) :: pn)) (b0 :: suite) (ts a cls d)) (r : HdsA X hds l) :
      HdsA X (.ExceptHandler (some (.Name x qn)) (some n) (b0 :: suite) q0 :: hds) ((c, .named i ts) :: l)
  | keep {x n y : Str} {i j : Nat} {c : Value} {qn q0 q1 q2 q3 : Pos} {hds : List ExceptHandler} {l : List (Value × HKd)} (hc : Names X x c) (hi : X.N[i]? = some n) (hj : X.N[j]? = some y) (hij : i ≠ j) (hln : X.env.kindOf n = some .local) (hlr : X.env.kindOf y = some .local)
      (hdn : (n == ("__debug__" : Str)) = false) (hcd : (n == ("__classdict__" : Str)) = false) (hsw : swapsWith (.Name n q2) (some (.Name y q1)) q3.line X.env = pure false) (r : HdsA X hds l) :
      HdsA X (.ExceptHandler (some (.Name x qn)) (some n) [.Assign [.Name y q1] (.Name n q2) q3] q0 :: hds) ((c, .keep i j) :: l)
section
variable {X : Cx} {body : List Stmt} {hd0 : ExceptHandler} {hds : List ExceptHandler} {l : List (Value × HKd)} {q4 : Pos} {tb : WX → TS} {Wo : WX}
end
/-! ### the clauses by values -/
abbrev HF := Str → List (Str × D) → MS
def hdG : List (List (Str × Bool) × HF) → HF
  | [], c, fs, ρ, h => .exc c fs ρ h
  | (t, f) :: r, c, fs, ρ, h => match t.lookup c with
    | some true => f c fs ρ h
    | some false => hdG r c fs ρ h
    | none => .bad
def mTryH (hs : List (List (Str × Bool) × HF)) (b : MS) : MS := fun ρ h => match b ρ h with
  | .exc c fs ρ1 h1 => hdG hs c fs ρ1 h1
  | o => o
def hOnly (s : MS) : HF := fun _ _ => s
def hKeep (i j : Nat) : HF := fun c fs ρ h => match xoOf c fs with
  | some d => .nx (((ρ.set i none).set j (some d)).set i none) h
  | none => .bad
/-- with a name: a text kept in slot k, the exception's field f in slot j -/
def hFld (cs : List Str) (i k j : Nat) (s f : Str) : HF := fun c fs ρ h => match fs with
  | [(f', v)] => if c ∈ cs ∧ f' = f then .nx ((((ρ.set i none).set k (some (.str s))).set j (some v)).set i none) h else .bad
  | _ => .bad
def HsR (X : Cx) (W : WX) (hds : List ExceptHandler) (hs : List (List (Str × Bool) × HF)) : Prop :=
  ∃ l, HdsA X hds l ∧ ∀ (E : Ends) (cls : Value) (d : Option Addr) (σ : L2.St) (H : Hp) (μ : List Addr) (ρ : Slots) (h : MH) (cn : Str) (fs : List (Str × D)),
    SR (gOf X.w X.K) H μ σ ρ → HR (gOf X.w X.K) H μ h → XR (gOf X.w X.K) H μ cls d cn fs → BkS (gOf X.w X.K) H μ (hdG hs cn fs ρ h) E W → wHd X.K W E l cls d σ H
section
variable {X : Cx} {W : WX} {x n y w f s : Str} {b0 : Stmt} {suite body : List Stmt} {qn q0 q1 q2 q3 q4 q5 q6 q7 q8 : Pos} {ms mb : MS} {tab : List (Str × Bool)} {hds : List ExceptHandler} {hd0 : ExceptHandler} {hs : List (List (Str × Bool) × HF)} {i j k kx : Nat} {cs : List Str}
end
/-! ### walks -/
section
variable {N : SP} {T : D → MH → Prop} {B C : SP} {E : SX} {ρ : Slots} {h : MH} {b s : MS} {hs : List (List (Str × Bool) × HF)} {tab : List (Str × Bool)} {f : HF} {c : Str} {fs : List (Str × D)}
def tryH (hs : List (List (Str × Bool) × HF)) (N : SP) (T : D → MH → Prop) (B C : SP) (E : SX) : SX := fun c fs ρ h => OS (hdG hs c fs ρ h) N T B C E
end
end Mi

/-! dicts with tuple keys: walked (the dict is locked from then on), read -/
namespace Mi
open PySem L2 PySem.Spec PyProof.Rows
/-- a dict with tuple keys that is locked -/
def NFrz (w : World) (H : Hp) (p : Addr) (o : Obj) (xs : NE) : Prop := H p = some (.frz o (DN w p xs))
section
variable {X : Cx} {pins : List (Addr × Obj)} {σ : L2.St} {H : Hp} {s : Shared} {p : Addr} {xs : NE} {o : Obj}
end
/-- its key objects -/
def Itn (w : World) (d : Addr) (o : Obj) (xs : NE) : L2.It :=
  ⟨fun i H => NFrz w H d o xs ∧ i < xs.length, fun i H x H' => H' = H ∧ ∃ e, xs[i]? = some e ∧ x = .ref e.2.1, fun i H => NFrz w H d o xs ∧ xs.length ≤ i⟩
/-- the dict is locked now, or was -/
def iKeysN (w : World) (td : TE) : TI := fun σ H R => td σ H fun x H1 => ∃ d xs, x = .ref d ∧ ((∃ o, NFrz w H1 d o xs ∧ R (Itn w d o xs) H1) ∨ (H1 d = some (DN w d xs) ∧ ∀ o, R (Itn w d o xs) (upd H1 d (.frz o (DN w d xs)))))
/-! ### by values -/
def mKeysT (ma : ME) : MI := fun ρ h => (ma ρ h).bind fun x h1 => match x with
  | .ref i => match h1[i]? with
    | some (.dT l) => .ok (l.map (·.1), yes) (h1.set i (.fT l))
    | some (.fT l) => .ok (l.map (·.1), yes) h1
    | _ => .bad
  | _ => .bad
section
variable {g : G} {H : Hp} {μ : List Addr}
end
section
variable {X : Cx} {W : WX} {e tg : Expr} {ma : ME}
end
/-! ### read -/
def NDctR (w : World) (H : Hp) (p : Addr) (xs : NE) : Prop := NDct w H p xs ∨ ∃ o, NFrz w H p o xs
def rFIx (K : PySem.W.Frag) (w : World) : R2 := fun x y H Q => ∃ a p k xs c u v, y = .ref a ∧ x = .ref p ∧ NkV K H k (.ref a) ∧ k.depth ≤ 8 ∧ NDctR w H p xs ∧ NKeys K H xs ∧ atKey xs k = some (c, u) ∧ RelV v u ∧ Q v H
def getR (h : MH) (x : D) : Option (List (D × D)) := match x with
  | .ref i => match h[i]? with
    | some (.dT l) => some l
    | some (.fT l) => some l
    | some (.dK []) => some []
    | _ => none
  | _ => none
def dTIx (x y : D) (h : MH) : R D := match getR h x, nkT y with
  | some l, some k => match valT l k with
    | some d => .ok d h
    | none => .bad
  | _, _ => .bad
end Mi
namespace Mi
open Lean Elab Tactic Meta PySem PySem.Calls PyProof.Rows PyProof.V PySem.Spec
/-! ### == of two such dicts -/
section
variable {prog : Program} {w : World} {K : Type} [DecidableEq K] {knd : HeapKind prog w K} {A : Around} {E : Value → Shared → Prop} {s : Shared}
inductive HitsN (A : Around) (s : Shared) (kb : List (K × Addr × Value)) : List (K × Addr × Value) → Bool → Prop
  | nil : HitsN A s kb [] true
  | miss {e : K × Addr × Value} {r : List (K × Addr × Value)} : atKey kb e.1 = none → HitsN A s kb (e :: r) false
  | hit {e : K × Addr × Value} {c : Addr} {y : Value} {r : List (K × Addr × Value)} {k b : Bool} : atKey kb e.1 = some (c, y) → SeqAt.EqAt A s e.2.2 y k → HitsN A s kb r b → HitsN A s kb (e :: r) (k && b)
end
end Mi
namespace Mi
open PySem L2 PySem.Spec PyProof.Rows
/-! ### != by values (whole numbers) -/
def valsI : List (D × D) → Bool
  | [] => true
  | (_, .int _) :: l => valsI l
  | _ => false
def eqT (l m : List (D × D)) : Bool := l.length == m.length && l.all fun p => match nkD p.1 with
  | some k => decide (valT m k = some p.2)
  | none => false
def dTNe (a b : D) (h : MH) : R D := match getR h a, getR h b with
  | some l, some m => if valsI l = true ∧ valsI m = true then .ok (.bl (!(eqT l m))) h else .bad
  | _, _ => .bad
def IntE (xs : NE) (l : List (D × D)) : Prop := ∀ (i : Nat) e, xs[i]? = some e → ∃ (p : D × D) (z : Int) (t : Tok), l[i]? = some p ∧ nkD p.1 = some e.1 ∧ p.2 = .int z ∧ e.2.2 = .int z t
def rTNe (K : PySem.W.Frag) (w : World) : R2 := fun x y H Q => ∃ p q xs ys l m, x = .ref p ∧ y = .ref q ∧ NDctR w H p xs ∧ NKeys K H xs ∧ NDctR w H q ys ∧ NKeys K H ys ∧ xs.length = l.length ∧ ys.length = m.length ∧ IntE xs l ∧ IntE ys m ∧ (∀ k, (atKey ys k = none ∧ valT m k = none) ∨ ∃ a z t, atKey ys k = some (a, .int z t) ∧ valT m k = some (.int z)) ∧ Q (.bl (!(eqT l m))) H
/-! ### get -/
def dGetT (x y z : D) (h : MH) : R D := match nkT y, getT h x with
  | some k, some l => .ok ((valT l k).getD z) h
  | _, _ => .bad
def mGetT (o e f : ME) : ME := fun ρ h => (o ρ h).bind fun x h1 => if (getT h1 x).isSome = true then (e ρ h1).bind fun y h2 => (f ρ h2).bind fun z h3 => dGetT x y z h3 else .bad
section
variable {X : Cx} {W : WX} {o e f : Expr} {mo me mf : ME} {apos cpos : Pos}
end
/-! ### >= of pairs of whole numbers -/
def rGeP (K : PySem.W.Frag) : R2 := fun x y H Q => ∃ b c, PairV K H x b ∧ PairV K H y c ∧ Q (.bl (!ltP b c)) H
def dGeP (a b : D) (h : MH) : R D := match a, b with
  | .tup [.int i, .int j], .tup [.int k, .int l] => .ok (.bl (!ltP (i, j) (k, l))) h
  | _, _ => .bad
/-! ### walks -/
section
variable {Q : D → MH → Prop} {E : XE} {h : MH} {ρ : Slots}
end
end Mi

/-! `k not in d` of a dict with tuple keys that may be locked -/
namespace Mi
open PySem L2 PySem.Spec PyProof.Rows
def rNotInR (K : PySem.W.Frag) (w : World) : R2 := fun x y H Q => ∃ a p k xs, x = .ref a ∧ y = .ref p ∧ NkV K H k (.ref a) ∧ k.depth ≤ 8 ∧ NDctR w H p xs ∧ NKeys K H xs ∧ Q (.bl (!(atKey xs k).isSome)) H
def dRNotIn (a b : D) (h : MH) : R D := match nkT a, getR h b with
  | some k, some l => .ok (.bl (!(valT l k).isSome)) h
  | _, _ => .bad
end Mi

/-! len(set(xs)) of a list of tuples of whole numbers -/
namespace Mi
open PySem L2 PySem.Spec PyProof.Rows
def intsD50 : List D → Option (List Int)
  | [] => some []
  | .int i :: l => (intsD50 l).map (i :: ·)
  | _ => none
def tupsD50 : List D → Option (List (List Int))
  | [] => some []
  | .tup ds :: l => match intsD50 ds, tupsD50 l with
    | some k, some r => some (k :: r)
    | _, _ => none
  | _ => none
def mLenSetT (a : ME) : ME := fun ρ h => (a ρ h).bind fun x h1 => match x with
  | .ref i => match (getL h1 i).bind tupsD50 with
    | some ks => if ks.length < 64 then .ok (.int ks.eraseDups.length) h1 else .bad
    | none => .bad
  | _ => .bad
section
variable {g : G} {H : Hp} {μ : List Addr}
theorem ints_of50 : ∀ {vs : List V} {ds : List D} {ks : List Int}, VRs g H μ vs ds → intsD50 ds = some ks → vs = ks.map V.int
  | _, [], _, .nil, e => by cases e; rfl
  | _, d :: l, ks, .cons a b, e => by
    unfold intsD50 at e
    split at e
    · rename_i e0; cases e0
    · rename_i i l' e0
      cases e0
      rw [Option.map_eq_some_iff] at e
      obtain ⟨r, e, rfl⟩ := e
      cases a
      rw [List.map_cons, ints_of50 b e]
    · cases e
end
section
variable {X : Cx} {g : G} {W : WX} {ma : ME} {a : Expr} {p p2 q pos : Pos}
end
def dLenSetT : List D → MH → R D
  | [x], h1 => match x with
    | .ref i => match (getL h1 i).bind tupsD50 with
      | some ks => if ks.length < 64 then .ok (.int ks.eraseDups.length) h1 else .bad
      | none => .bad
    | _ => .bad
  | _, _ => .bad
section
variable {X : Cx} {g : G} {W : WX} {ma : ME} {a : Expr} {p p2 q pos : Pos}
end
end Mi

/-! for k, v in d.items(), d a dict with tuple keys (the dict is locked from then on) -/
namespace Mi
open PySem L2 PySem.Spec PyProof.Rows
/-- its entries, each in a new pair -/
def Itn2 (w : World) (d : Addr) (o : Obj) (xs : NE) (vs : List V) : L2.It :=
  ⟨fun i H => NFrz w H d o xs ∧ i < xs.length, fun i H x H' => ∃ T e v, xs[i]? = some e ∧ vs[i]? = some v ∧ x = .ref T ∧ H T = none ∧ H' = upd H T (.tup [.ref e.2.1, v]), fun i H => NFrz w H d o xs ∧ xs.length ≤ i⟩
def iItemsN (w : World) (td : TE) : TI := fun σ H R => td σ H fun x H1 => ∃ d xs vs, x = .ref d ∧ Vals vs (xs.map (·.2.2)) ∧ ((∃ o, NFrz w H1 d o xs ∧ R (Itn2 w d o xs vs) H1) ∨ (H1 d = some (DN w d xs) ∧ ∀ o, R (Itn2 w d o xs vs) (upd H1 d (.frz o (DN w d xs)))))
/-! ### by values -/
def itmT (l : List (D × D)) : List D := l.map fun e => .tup [e.1, e.2]
def mItemsT (ma : ME) : MI := fun ρ h => (ma ρ h).bind fun x h1 => match x with
  | .ref i => match h1[i]? with
    | some (.dT l) => .ok (itmT l, yes) (h1.set i (.fT l))
    | some (.fT l) => .ok (itmT l, yes) h1
    | _ => .bad
  | _ => .bad
section
variable {g : G} {H : Hp} {μ : List Addr}
end
section
variable {X : Cx} {W : WX} {e : Expr} {ma : ME} {apos cpos : Pos} {elts : List Expr} {kk : Nat} {tpos : Pos}
end
end Mi

/-! len(d), d a dict with tuple keys -/
namespace Mi
open PySem L2 PySem.Spec PyProof.Rows
def rLenN (K : PySem.W.Frag) (w : World) : List V → Hp → VK → Prop := fun xs H Q => ∃ (p : Addr) (ys : NE), xs = [.ref p] ∧ NDct w H p ys ∧ NKeys K H ys ∧ Q (.int ((ys.length : Nat) : Int)) H
def dLenN : List D → MH → R D
  | [x], h => match getN h x with
    | some l => .ok (.int l.length) h
    | none => .bad
  | _, _ => .bad
end Mi

/-! a, b, c = x, y, z with plain local names -/
namespace Mi
open PySem L2
def par3 (i j l : Nat) (ρ : Slots) (ds : List D) (h : MH) : Out := match ds with
  | [a, b, c] => .nx (((ρ.set i (some a)).set j (some b)).set l (some c)) h
  | _ => .bad
def mPar3 (i j l : Nat) (r : MA) : MS := fun ρ h => (r ρ h).out ρ fun ds h1 => par3 i j l ρ ds h1
end Mi

/-! list.count of texts -/
namespace Mi
open PySem L2 PySem.Spec PyProof.Rows
def rCntT (K : PySem.W.Frag) : V → List V → Hp → VK → Prop := fun x xs H Q => ∃ (p : Addr) (ns : List Str) (k : Str), x = .ref p ∧ xs = [.str k] ∧ SqL K H p (ns.map V.str) ∧ Q (.int (ns.count k : Nat)) H
section
variable {X : Cx}
end
def dLCountT : D → List D → MH → R D
  | .ref i, [.str k], h => match (getL h i).bind allStr with
    | some ns => .ok (.int (ns.count k : Nat)) h
    | none => .bad
  | _, _, _ => .bad
section
variable {g : G}
end
section
variable {h : MH} {Q : D → MH → Prop} {E : XE}
end
end Mi

/-! str.partition(sep) -/
namespace Mi
open PySem PySem.Spec PyProof.Rows L2
def rPartF : V → List V → Hp → VK → Prop := fun x xs H Q => ∃ a b, x = .str a ∧ xs = [.str b] ∧ (b.length == 0) = false ∧ a.length ≤ sizeLine ∧
    ∀ (p : Addr) (ob : Obj), H p = none → ob.dict = none → Q (.ref p) (upd H p (.frz ob (.tup [.str (Txt.partition a b).1, .str (Txt.partition a b).2.1, .str (Txt.partition a b).2.2])))
section
variable {X : Cx} {pins : List (Addr × Obj)} {s : Shared} {σ : L2.St} {H : Hp} {Q : VK}
end
def dPart : D → List D → MH → R D
  | .str a, [.str b], h => if (b.length == 0) = false ∧ a.length ≤ 900000 then .ok (.tup [.str (Txt.partition a b).1, .str (Txt.partition a b).2.1, .str (Txt.partition a b).2.2]) h else .bad
  | _, _, _ => .bad
section
variable {g : G}
end
section
variable {h : MH} {Q : D → MH → Prop} {E : XE} {x y : Str}
end
end Mi

/-! len(d), d a dict with int or text keys -/
namespace Mi
open PySem L2 PySem.Spec PyProof.Rows
def rLenK : List V → Hp → VK → Prop := fun xs H Q => ∃ a kvs, xs = [V.ref a] ∧ H a = some (.dK kvs) ∧ Q (.int kvs.length) H
def dLenK : List D → MH → R D
  | [x], h => match getK h x with
    | some l => .ok (.int l.length) h
    | none => .bad
  | _, _ => .bad
end Mi

/-! sorted of a list of tuples of whole numbers, of any lengths, whose first is () -/
namespace PySem.W
open PySem PySem.Calls PySem.SeqAt PyProof.Rows
theorem call_tuple_lt57 {prog : Program} {w : World} {A : Around} {s : Shared} {E : Value → Shared → Prop} {Q : Value → Shared → Prop} {l b : Addr} {items items2 : Array Value} {e r : Nat → Bool} (hl : s.heap.IsTuple l items) (hb : s.heap.IsTuple b items2)
    (he : ∀ j (h1 : j < items.size) (h2 : j < items2.size), EqAt A.in1 s items[j] items2[j] (e j)) (hr : ∀ j (h1 : j < items.size) (h2 : j < items2.size), e j = false → RcLt A.in1 s items[j] items2[j] (r j))
    (h : Q (.bool (firstLt e r (decide (items.size < items2.size)) (List.range (min items.size items2.size)))) s) : wpAny (model prog w) A (call (.builtin "tuple.__lt__") [.ref l, .ref b]) Q E s := by
  obtain ⟨⟨cls, dd, data, sl⟩, ho, hc, n, hd⟩ := id hl
  obtain ⟨⟨cls2, dd2, data2, sl2⟩, ho2, hc2, n2, hd2⟩ := id hb
  simp only at hc hd hc2 hd2
  subst hc hd hc2 hd2
  exact call_meets F.slot_tuple_lt ⟨_, ho, rfl⟩ F.entry_tuple_lt (F.args_tuple_lt_2 _ _) (tuple_ltAt l b items items2 n n2 dd dd2 sl sl2 e r) ⟨ho, ho2, he, hr, h⟩
theorem oneLt_tup57 {prog : Program} {w : World} {A : Around} {s : Shared} {E : Value → Shared → Prop} {xs ys : List PyData} {a b : Value} {as bs : List Addr} {Q : Bool → Shared → Prop} (ra : Reads s.heap a (.tuple xs) as) (rb : Reads s.heap b (.tuple ys) bs) (hal : alikeAll xs ys = true)
    (hu : A.units + min (PyData.tuple xs).depth (PyData.tuple ys).depth < cLine) (hq : Q (dataLt (.tuple xs) (.tuple ys)) s) : wpAny (model prog w) A (oneLt' true a b) Q E s := by
  cases ra with
  | @tuple l o vs n _ as₁ h1 h2 h3 h4 =>
    cases rb with
    | @tuple l' o' vs' n' _ bs₁ k1 k2 k3 k4 =>
      have n1 : vs.size = xs.length := by simpa using ReadsAll.length _ _ _ h4
      have n2 : vs'.size = ys.length := by simpa using ReadsAll.length _ _ _ k4
      rw [dataLt_tuple, ← firstLt_toks xs ys hal, ← n1, ← n2] at hq
      rw [oneLt'_eq]
      simp only [if_true]
      refine wpAny_bind (wpAny_cRoomFor (room_here hu) ?_)
      refine wpAny_bind (wpAny_callSpecialIfBound?_slot (T := "tuple") ⟨_, h1, h2⟩ F.slot_tuple_lt (call_tuple_lt57 (e := pairEq xs ys) (r := fun j => dataLt (xs.getD j .none) (ys.getD j .none)) ⟨_, h1, h2, _, h3⟩ ⟨_, k1, k2, _, k3⟩ (fun j j1 j2 => ?_) (fun j j1 j2 hj => ?_) ?_))
      · have := eqAt_alikeAll xs ys A.in1 s vs.toList vs'.toList _ _ h4 k4 hal (room_in hu) j (by simpa using j1) (by simpa using j2)
        simpa using this
      · have := rcLt_alikeAll xs ys A.in1 s vs.toList vs'.toList _ _ h4 k4 hal (room_in hu) j (by simpa using j1) (by simpa using j2) hj
        simpa using this
      · exact wpAny_truthy_bool hq
section
variable {M : Model} {A : Around} {E : Value → Shared → Prop} {s : Shared}
theorem first57 {v : Value} {xs : List PyData} {as : List Addr} {Q : Option Value → Shared → Prop} (r : Reads s.heap v (.tuple xs) as) (h : ∀ f, (xs = [] → f = none) → Q f s) : wpAny M A (firstOfTuple' v) Q E s := by
  cases r with
  | @tuple a o vs n _ _ ho hc hd hr =>
    rw [kas_first_eq]
    refine wpAny_bind (Looks.here (show Looks M s.heap (typeOf (.ref a)) o.cls from (Looks.ld ho).andThen .now) ?_)
    rw [hc, if_neg (by first | decide | simp)]
    refine wpAny_bind (listItems_at ho hd (wpAny_pure ?_))
    refine h _ ?_
    rintro rfl
    have : vs.toList = [] := by cases q : vs.toList with
      | nil => rfl
      | cons a l => rw [q] at hr; cases hr
    rw [← Array.getElem?_toList, this]
    rfl
theorem firsts57 : ∀ (vs : List Value) (ds : List PyData) {Q : List (Option Value) → Shared → Prop}, EachIs (fun v d => ∃ as, Reads s.heap v d as) vs ds → (∀ d ∈ ds, ∃ xs, d = .tuple xs) → (∀ fs, (∀ r, ds = .tuple [] :: r → ∃ t, fs = none :: t) → Q fs s) → wpAny M A (vs.mapM firstOfTuple') Q E s
  | _, _, Q, .nil, _, h => by rw [List.mapM_nil]; exact wpAny_pure (h _ fun r e => by cases e)
  | _, _, Q, .cons (a := v) (as := vs) (b := d) (bs := ds) ⟨as, r⟩ t, hd, h => by
    obtain ⟨xs, rfl⟩ := hd _ (List.mem_cons_self ..)
    rw [List.mapM_cons]
    refine wpAny_bind (first57 r fun f hf => ?_)
    refine wpAny_bind (firsts57 vs ds t (fun d hm => hd d (List.mem_cons_of_mem _ hm)) fun fs _ => ?_)
    refine wpAny_pure (h _ fun r e => ?_)
    cases e
    exact ⟨fs, by rw [hf rfl]⟩
theorem kind57 {vs : List Value} {ds : List PyData} {Q : SortKind → Shared → Prop} (e : EachIs (fun v d => ∃ as, Reads s.heap v d as) vs (.tuple [] :: ds)) (hd : ∀ d ∈ ds, ∃ xs, d = .tuple xs) (h : Q oneType' s) : wpAny M A (keyKind' vs.toArray) Q E s := by
  have hd' : ∀ d ∈ PyData.tuple [] :: ds, ∃ xs, d = .tuple xs := fun d hm => by
    rcases List.mem_cons.mp hm with rfl | q
    · exact ⟨_, rfl⟩
    · exact hd d q
  rw [kat_kind_eq, List.mapM_toArray, map_eq_pure_bind]
  refine wpAny_bind (wpAny_bind (firsts57 vs _ e hd' fun fs hfs => wpAny_pure ?_))
  obtain ⟨t, rfl⟩ := hfs _ rfl
  rw [if_neg (by simp), if_neg (by simp)]
  have hT : ∀ v ∈ vs, Looks M s.heap (typeOf v) (.type "tuple") := fun v hv => by
    obtain ⟨d, hm, as, r⟩ := e.left v hv
    obtain ⟨xs, rfl⟩ := hd' d hm
    exact looks_reads r
  obtain ⟨v₁, rest, rfl⟩ : ∃ v₁ rest, vs = v₁ :: rest := by
    cases e
    exact ⟨_, _, rfl⟩
  rw [oneTypeOnly'_eq, List.mapM_toArray, map_eq_pure_bind]
  refine wpAny_bind (wpAny_bind (wpAny_bind (kas_mapM (r := Value.type "tuple") _ (fun v hv Q' hq => (hT v hv).here hq) (wpAny_pure ?_))))
  have hall : ((List.map (fun _ => Value.type "tuple") (v₁ :: rest)).toArray.all fun x => x == Value.type "tuple") = true := by
    simp only [List.all_toArray, List.all_map, List.all_eq_true]
    intro _ _
    exact beq_self_eq_true _
  have h0 : (List.map (fun _ => Value.type "tuple") (v₁ :: rest)).toArray[0]? = some (Value.type "tuple") := by simp
  rw [h0]
  simp only [hall, if_true]
  exact wpAny_pure (wpAny_pure h)
end
section
variable {prog : Program} {w : World} {A : Around} {s : Shared} {E : Value → Shared → Prop} {β : Type} {vs : List Value} {bs : List β} {enc : β → PyData} {R : Value → β → Prop}
theorem sortsAt57 {vs : List Value} {ds : List PyData} (e : EachIs (fun v d => ∃ as, Reads s.heap v d as) vs (.tuple [] :: ds)) (hal : AllAlike (.tuple [] :: ds)) (hd : ∀ d ∈ ds, ∃ xs, d = .tuple xs) (hu : ∀ d, d ∈ PyData.tuple [] :: ds → A.units + d.depth < cLine) : SortsAt prog w A s (dataKind s.heap (.tuple [] :: ds)) vs := by
  have hd' : ∀ d ∈ PyData.tuple [] :: ds, ∃ xs, d = .tuple xs := fun d hm => by
    rcases List.mem_cons.mp hm with rfl | q
    · exact ⟨_, rfl⟩
    · exact hd d q
  refine ⟨fun v hv => ?_, oneType', ?_, fun h2 E Q hq => kind57 e hd hq⟩
  · obtain ⟨d, hd, as, r⟩ := e.left v hv
    exact ⟨_, dataKind_some hal hd r⟩
  · intro E x y a b Q ha hb hq
    obtain ⟨d, as, hm, ra, rfl⟩ := dataKind_inv ha
    obtain ⟨d', as', hm', rb, rfl⟩ := dataKind_inv hb
    rw [keyLt'_oneType]
    obtain ⟨xs, rfl⟩ := hd' d hm
    obtain ⟨ys, rfl⟩ := hd' d' hm'
    exact oneLt_tup57 ra rb (by simpa [alike] using hal _ hm _ hm') (Nat.lt_of_le_of_lt (Nat.add_le_add_left (Nat.min_le_left _ _) _) (hu _ hm)) hq
theorem sorted57 {l : Addr} {Q : Value → Shared → Prop} {b0 : β} (hl : s.heap.IsList l vs.toArray) (e : EachIs R vs (b0 :: bs)) (er : EachIs (fun v b => ∃ as, Reads s.heap v (enc b) as) vs (b0 :: bs)) (hal : AllAlike ((b0 :: bs).map enc)) (h0 : enc b0 = .tuple []) (hk : ∀ b, ∃ xs, enc b = .tuple xs) (hL : (b0 :: bs).length ≤ sizeLine)
    (hu : ∀ b, b ∈ b0 :: bs → A.units + 2 + (enc b).depth < cLine) (h : ∀ out, out.length = (b0 :: bs).length → EachIs R out ((b0 :: bs).mergeSort (dataLe false enc)) → Q (.ref (s.heap.objs.size + 1)) { s with heap := sortedAll s.heap vs (List.toArray out) }) :
    wpAny (model prog w) A (call (.builtin "sorted") [.ref l]) Q E s := by
  have er' : EachIs (fun v b => ∃ as, Reads (sortingHeap (copyHeap s.heap vs) (s.heap.objs.size + 1) vs) v (enc b) as) vs (b0 :: bs) := er.mono fun _ _ ⟨as, r⟩ => ⟨as, PyProof.Rows.Reads.keeps (fun _ _ => sorting_copy_old) r⟩
  have em : (b0 :: bs).map enc = .tuple [] :: bs.map enc := by rw [List.map_cons, h0]
  have eD := each_map (R := fun v d => ∃ as, Reads (sortingHeap (copyHeap s.heap vs) (s.heap.objs.size + 1) vs) v d as) enc er'
  have hS := fun (A' : Around) (hu' : ∀ d, d ∈ PyData.tuple [] :: bs.map enc → A'.units + d.depth < cLine) => sortsAt57 (prog := prog) (w := w) (A := A') (s := { s with heap := sortingHeap (copyHeap s.heap vs) (s.heap.objs.size + 1) vs }) (em ▸ eD) (em ▸ hal) (fun d hd => by
    obtain ⟨b, _, rfl⟩ := List.mem_map.mp hd
    exact hk b) hu'
  rw [← em] at hS
  exact sorted_vals hl (hS _ (bound_map hu)) (by rw [e.length]; exact hL)
    (h _ (by rw [sortVals_length false rfl]; exact e.length) (sortVals_data false e er' hal))
end
end PySem.W
namespace Mi
open PySem L2 PySem.Spec PyProof.Rows
def tupTI (b : List Int) : D := .tup (b.map .int)
def encTI (b : List Int) : PyData := .tuple (b.map .int)
def sortTI (l : List (List Int)) : List (List Int) := l.mergeSort fun p q => decide (p ≤ q)
theorem dataLe_TI : PySem.W.dataLe false encTI = fun p q => decide (p ≤ q) := by
  funext p q
  show (!PySem.W.dataLt (.tuple (q.map .int)) (.tuple (p.map .int))) = _
  rw [PySem.W.dataLt_tuple]
  show (!PySem.W.rowLt (q.map .int) (p.map .int)) = _
  rw [PySem.W.dataLt_ints]
  by_cases h : q < p
  · have h' : ¬ p ≤ q := fun r => List.not_lt.mpr r h
    simp [h, h']
  · have h' : p ≤ q := List.not_lt.mp h
    simp [h, h']
def TupV (K : PySem.W.Frag) (H : Hp) (x : V) (b : List Int) : Prop := ∃ q, x = .ref q ∧ Tk K H q (b.map V.int)
abbrev TupsV (K : PySem.W.Frag) (H : Hp) : List V → List (List Int) → Prop := PySem.W.EachIs (TupV K H)
def rSortTI (K : PySem.W.Frag) : List V → Hp → VK → Prop := fun xs H Q => ∃ p ys bs, xs = [V.ref p] ∧ SqL K H p ys ∧ TupsV K H ys ([] :: bs) ∧ ∀ zs r, TupsV K H zs (sortTI ([] :: bs)) → H r = none → Q (.ref r) (upd H r (.lst zs))
theorem each_tups57 {K : PySem.W.Frag} {H : Hp} : ∀ {ys : List V} {its : List Value} {bs : List (List Int)}, Vals ys its → TupsV K H ys bs → PySem.W.EachIs (fun v b => ∃ x, RelV x v ∧ TupV K H x b) its bs
  | _, _, _, .nil, .nil => .nil
  | _, _, _, .cons a r, .cons c t => .cons ⟨_, a, c⟩ (each_tups57 r t)
theorem tups57_each {K : PySem.W.Frag} {H : Hp} : ∀ {out : List Value} {bs : List (List Int)}, PySem.W.EachIs (fun v b => ∃ x, RelV x v ∧ TupV K H x b) out bs → ∃ zs, Vals zs out ∧ TupsV K H zs bs
  | _, _, .nil => ⟨[], .nil, .nil⟩
  | _, _, .cons h t => by
    obtain ⟨x, a, c⟩ := h
    obtain ⟨zs, r, t⟩ := tups57_each t
    exact ⟨x :: zs, .cons a r, .cons c t⟩
theorem tupsV_len {K : PySem.W.Frag} {H : Hp} : ∀ {zs : List V} {bs : List (List Int)}, TupsV K H zs bs → zs.length = bs.length
  | _, _, .nil => rfl
  | _, _, .cons _ t => by rw [List.length_cons, List.length_cons, tupsV_len t]
theorem reads_ints57 {h : Heap} : ∀ {b : List Int} {ws : List Value}, Vals (b.map V.int) ws → ReadsAll h ws (b.map PyData.int) []
  | [], _, .nil => .nil
  | i :: b, _, .cons a r => by
    obtain ⟨t, rfl⟩ := a
    exact .cons (.int _ _) (reads_ints57 r)
section
variable {X : Cx} {pins : List (Addr × Obj)} {σ : L2.St} {H : Hp} {s : Shared}
theorem reads_tup57 (I : L2.Inv X pins σ H s) {v : Value} {x : V} {b : List Int} (rx : RelV x v) (hx : TupV X.K H x b) : Reads s.heap v (encTI b) [] := by
  obtain ⟨q, rfl, tk⟩ := hx
  obtain rfl : v = Value.ref q := rx
  obtain ⟨ws, rv, ⟨o, ho, hcl, n, hd⟩, _⟩ := I.tuple tk.sq
  exact .tuple ho hcl hd (reads_ints57 rv)
theorem cr_sortTI (hu : X.A.units + 65 < cLine) : CallR X (.builtin "sorted") (rSortTI X.K) := by
  intro pins s σ H xs us Q I rr hh
  obtain ⟨p, ys, bs, rfl, hs, hp, q⟩ := hh
  obtain ⟨its, rv, pl, zl⟩ := I.list hs
  obtain ⟨u, rfl, ru⟩ := vals1 rr
  obtain rfl : u = Value.ref p := ru
  have e := each_tups57 rv hp
  have hlen := tupsV_len hp
  refine PySem.W.sorted57 (vs := its) (b0 := []) (bs := bs) (enc := encTI) (R := fun v b => ∃ x, RelV x v ∧ TupV X.K H x b) pl.isList e (e.mono fun v b ⟨x, a, c⟩ => ⟨[], reads_tup57 I a c⟩) (PySem.W.AllAlike.of fun a b => ?_) rfl (fun b => ⟨_, rfl⟩) (by rw [← hlen]; exact zl) (fun b _ => ?_) fun out ho hR => ?_
  · simp only [encTI, PySem.W.alike]
    exact PySem.W.alike_ints a b
  · have : (encTI b).depth ≤ 1 := by unfold encTI; simp [PyData.depth, PySem.W.depth_ints]
    omega
  · rw [dataLe_TI] at hR
    obtain ⟨zs, vz, pz⟩ := tups57_each hR
    obtain ⟨ep, he⟩ := PyProof.Rows.sortedAll_at s.heap its out.toArray
    refine ⟨.ref _, upd H (s.heap.objs.size + 1) (.lst zs), I.laid (t' := s.toks) (fun _ _ => PyProof.Rows.sortedAll_old) (Nat.le_succ _) ⟨?_, out, ep, vz, he⟩, rfl, q _ _ pz (I.hok.fresh (Nat.le_succ _))⟩
    rw [vz.length, ho, ← hlen]
    exact zl
end
def dSortTI : List D → MH → R D
  | [x], h => match x with
    | .ref i => match getL h i with
      | some l => match tupsD50 l with
        | some ([] :: ps) => .ok (.ref h.length) (h ++ [.lst ((sortTI ([] :: ps)).map tupTI)])
        | _ => .bad
      | none => .bad
    | _ => .bad
  | _, _ => .bad
theorem tupsV_of {g : G} {H : Hp} {μ : List Addr} : ∀ {l : List D} {xs : List V} {ps : List (List Int)}, VRs g H μ xs l → tupsD50 l = some ps → TupsV g.K H xs ps
  | [], _, _, .nil, e => by cases e; exact .nil
  | d :: l, _, ps, .cons a b, e => by
    unfold tupsD50 at e
    split at e
    · rename_i e0; cases e0
    · rename_i ds l' e0
      cases e0
      split at e
      · rename_i k r e1 e2
        cases e
        cases a with
        | tup tk vs =>
          have := ints_of50 vs e1
          subst this
          exact .cons ⟨_, rfl, tk⟩ (tupsV_of b e2)
      · cases e
    · cases e
theorem vrs_ints57 {g : G} {H : Hp} {μ : List Addr} : ∀ b : List Int, VRs g H μ (b.map V.int) (b.map D.int)
  | [] => .nil
  | i :: b => .cons (.int _) (vrs_ints57 b)
theorem vrs_tups57 {g : G} {H : Hp} {μ : List Addr} : ∀ {zs : List V} {cs : List (List Int)}, TupsV g.K H zs cs → VRs g H μ zs (cs.map tupTI)
  | _, _, .nil => .nil
  | _, _, .cons h t => by
    obtain ⟨q, rfl, tk⟩ := h
    exact .cons (.tup tk (vrs_ints57 _)) (vrs_tups57 t)
theorem sn_sortTI {g : G} : SN g (rSortTI g.K) dSortTI := sn1 (fun H μ h x a Q W hr va bk => by
  cases va with
  | @ref p i hi =>
    simp only [dSortTI] at bk
    split at bk
    · rename_i l e1
      split at bk
      · rename_i ps e2
        obtain ⟨xs, hs, vs⟩ := hr.list hi e1
        exact ⟨p, xs, ps, rfl, hs, tupsV_of vs e2, fun zs r h1 h3 => bk.newL hr (vrs_tups57 h1) h3⟩
      · exact bk.elim
    · exact bk.elim
  | _ => exact bk.elim) (fun _ => rfl) (fun a b l h => by simp [dSortTI])
theorem intsD50_map : ∀ l : List Int, intsD50 (l.map .int) = some l
  | [] => rfl
  | p :: l => by
    show (intsD50 (l.map .int)).map (p :: ·) = _
    rw [intsD50_map l]
    rfl
theorem tupsD50_map : ∀ l : List (List Int), tupsD50 (l.map tupTI) = some l
  | [] => rfl
  | p :: l => by
    show (match intsD50 (p.map .int), tupsD50 (l.map tupTI) with
      | some k, some r => some (k :: r)
      | _, _ => none) = _
    rw [tupsD50_map l, intsD50_map p]
theorem w_sortTI {h : MH} {Q : D → MH → Prop} {E : XE} {i : Nat} {l : List (List Int)} (e : getL h i = some (([] :: l).map tupTI)) (q : Q (.ref h.length) (h ++ [.lst ((sortTI ([] :: l)).map tupTI)])) : Sat (dSortTI [.ref i] h) Q E := w_eq (by simp only [dSortTI, e, tupsD50_map]) q
end Mi
namespace Mi
open PySem L2
def m_cells_33ed8 : List D → MH → R D := mFun 3 8
 (mSeq (mAsg 3 (mCall (m_cell_at_5ae90) (mCons (mVar 0) (mCons (mVar 1) (mNil)))))
 (mSeq (mIf (mB (mBin dNe (mBin dMod (mVar 3) (mC (.int 3))) (mC (.int 1))))
 (mRet (mLc (mRange1 (mCall dMax (mCons (mC (.int 1)) (mCons (mCall dMin (mCons (mVar 2) (mCons (mBin dSub (mCall dLen (mCons (mVar 0) (mNil))) (mVar 1)) (mNil)))) (mNil))))) (mgName 7) (mYes) (mCall (m_cell_at_5ae90) (mCons (mVar 0) (mCons (mBin dAdd (mVar 1) (mVar 7)) (mNil)))) [7]))
 (mSkip))
 (mSeq (mAsg 4 (mVar 3))
 (mSeq (mAsg 5 (mLst (mNil)))
 (mSeq (mAsg 6 (mBin dAdd (mC (.int 1)) (mBin dMod (mBin dFdiv (mVar 3) (mC (.int 3))) (mVar 2))))
 (mSeq (mIf (mB (mBin dEq (mBin dMod (mBin dFdiv (mVar 3) (mC (.int 3))) (mC (.int 8))) (mC (.int 5))))
 (mAsg 6 (mC (.int 290)))
 (mSkip))
 (mSeq (mIf (mB (mBin dEq (mBin dMod (mBin dFdiv (mVar 3) (mC (.int 3))) (mC (.int 8))) (mC (.int 6))))
 (mAsg 6 (mC (.int 63)))
 (mSkip))
 (mSeq (mFor (mRange1 (mVar 6)) (mgName 7)
 (mSeq (mAsg 4 (mBin dMod (mBin dAdd (mBin dAdd (mBin dMul (mVar 4) (mC (.int 48271))) (mC (.int 12345))) (mVar 7)) (mC (.int 2147483647))))
 (mDrop (mMeth isListD dAppend (mVar 5) (mCons (mVar 4) (mNil))))))
 (mRet (mVar 5))))))))))
def m_parents_75466 : List D → MH → R D := mFun 1 6
 (mSeq (mAsg 1 (mBin dMod (mBin dIx (mVar 0) (mC (.int 0))) (mC (.int 4))))
 (mSeq (mAsg 2 (mLst (mCons (mC (.int 0)) (mNil))))
 (mSeq (mFor (mRange2 (mC (.int 1)) (mCall dLen (mCons (mVar 0) (mNil)))) (mgName 3)
 (mSeq (mAsg 4 (mBin dFdiv (mBin dMod (mBin dMul (mBin dIx (mVar 0) (mVar 3)) (mC (.int 16807))) (mC (.int 2147483629))) (mC (.int 5))))
 (mSeq (mAsg 5 (mBin dMod (mVar 4) (mVar 3)))
 (mSeq (mIf (mB (mBin dEq (mVar 1) (mC (.int 0))))
 (mAsg 5 (mBin dMod (mVar 4) (mCall dMin (mCons (mVar 3) (mCons (mC (.int 2)) (mNil))))))
 (mSkip))
 (mSeq (mIf (mB (mBin dEq (mVar 1) (mC (.int 1))))
 (mAsg 5 (mBin dSub (mBin dSub (mVar 3) (mC (.int 1))) (mBin dMod (mVar 4) (mCall dMin (mCons (mVar 3) (mCons (mC (.int 2)) (mNil)))))))
 (mSkip))
 (mSeq (mIf (mB (mBin dEq (mVar 1) (mC (.int 2))))
 (mAsg 5 (mBin dMod (mVar 4) (mCall dMin (mCons (mVar 3) (mCons (mC (.int 4)) (mNil))))))
 (mSkip))
 (mSeq (mIf (mB (mBin dGe (mBin dIx (mVar 0) (mVar 3)) (mBin dPow (mC (.int 10)) (mC (.int 18)))))
 (mAsg 5 (mBin dMod (mBin dFdiv (mBin dIx (mVar 0) (mVar 3)) (mBin dMul (mC (.int 8)) (mBin dPow (mC (.int 26)) (mC (.int 8))))) (mVar 3)))
 (mSkip))
 (mSeq (mIf (mB (mBin dGt (mCall dLen (mCons (mVar 0) (mNil))) (mC (.int 200))))
 (mAsg 5 (mBin dSub (mBin dSub (mVar 3) (mC (.int 1))) (mBin dFdiv (mBin dSub (mVar 3) (mC (.int 1))) (mC (.int 49)))))
 (mSkip))
 (mSeq (mIf (mB (mBin dEq (mCall dLen (mCons (mVar 0) (mNil))) (mC (.int 63))))
 (mAsg 5 (mC (.int 0)))
 (mSkip))
 (mDrop (mMeth isListD dAppend (mVar 2) (mCons (mBin dSub (mBin dSub (mVar 3) (mC (.int 1))) (mVar 5)) (mNil)))))))))))))
 (mRet (mVar 2)))))
def m_counts_299ff : List D → MH → R D := mFun 1 5
 (mSeq (mAsg 1 (mLc (mIter (mVar 0)) (mgName 3) (mYes) (mC (.int 1)) [3]))
 (mSeq (mAsg 2 (mLc (mIter (mVar 0)) (mgName 3) (mYes) (mC (.int 1)) [3]))
 (mSeq (mFor (mRev2 (mC (.int 1)) (mCall dLen (mCons (mVar 0) (mNil)))) (mgName 3)
 (mSeq (mAsg 4 (mBin dIx (mVar 0) (mVar 3)))
 (mSeq (mSetIx (mVar 1) (mVar 4) (mBin dAdd (mBin dIx (mVar 1) (mVar 4)) (mBin dIx (mVar 1) (mVar 3))))
 (mSetIx (mVar 2) (mVar 4) (mCall dMax (mCons (mBin dIx (mVar 2) (mVar 4)) (mCons (mBin dAdd (mBin dIx (mVar 2) (mVar 3)) (mC (.int 1))) (mNil))))))))
 (mRet (mTup (mCons (mVar 1) (mCons (mVar 2) (mNil))))))))
def m_places_of_1d612 : Nat → List D → MH → R D
 | 0 => fun _ _ => .bad
 | n + 1 => mFun 1 4
    (mSeq (mAsg 1 (mLst (mCons (mTup (mNil)) (mNil))))
     (mSeq (mFor (mRange1 (mCall dLen (mCons (mBin dIx (mVar 0) (mC (.int 1))) (mNil)))) (mgName 2)
     (mFor (mIter (mCall (m_places_of_1d612 n) (mCons (mBin dIx (mBin dIx (mVar 0) (mC (.int 1))) (mVar 2)) (mNil)))) (mgName 3)
     (mDrop (mMeth isListD dAppend (mVar 1) (mCons (mBin dAdd (mTup (mCons (mVar 2) (mNil))) (mVar 3)) (mNil))))))
     (mRet (mVar 1))))
def m_number_d6252 : List D → MH → R D := mFun 2 2
 (mRet (mAndV (mIsi "int" (mVar 0)) (mAndV (mNotV (mIsi "bool" (mVar 0))) (mBin dEq (mVar 0) (mVar 1)))))
def m_alike_9d8a9 : List D → MH → R D := mFun 2 4
 (mSeq (mIf (mOr (mNot (mB (mIsi "list" (mVar 0)))) (mB (mBin dNe (mCall dLen (mCons (mVar 0) (mNil))) (mCall dLen (mCons (mVar 1) (mNil))))))
 (mRet (mC (.bl false)))
 (mSkip))
 (mSeq (mFor (mRange1 (mCall dLen (mCons (mVar 1) (mNil)))) (mgName 2)
 (mSeq (mIf (mOr (mNot (mB (mIsi "tuple" (mBin dIx (mVar 0) (mVar 2))))) (mB (mBin dNe (mCall dLen (mCons (mBin dIx (mVar 0) (mVar 2)) (mNil))) (mCall dLen (mCons (mBin dIx (mVar 1) (mVar 2)) (mNil))))))
 (mRet (mC (.bl false)))
 (mSkip))
 (mFor (mRange1 (mCall dLen (mCons (mBin dIx (mVar 1) (mVar 2)) (mNil)))) (mgName 3)
 (mIf (mNot (mB (mCall (m_number_d6252) (mCons (mBin dIx (mBin dIx (mVar 0) (mVar 2)) (mVar 3)) (mCons (mBin dIx (mBin dIx (mVar 1) (mVar 2)) (mVar 3)) (mNil))))))
 (mRet (mC (.bl false)))
 (mSkip)))))
 (mRet (mC (.bl true)))))
def m_size_of_efccc : Nat → List D → MH → R D
 | 0 => fun _ _ => .bad
 | n + 1 => mFun 1 3
    (mSeq (mAsg 1 (mC (.int 1)))
     (mSeq (mFor (mIter (mBin dIx (mVar 0) (mC (.int 1)))) (mgName 2)
     (mAsg 1 (mBin dAdd (mVar 1) (mCall (m_size_of_efccc n) (mCons (mVar 2) (mNil))))))
     (mRet (mVar 1))))
def m_height_of_29386 : Nat → List D → MH → R D
 | 0 => fun _ _ => .bad
 | n + 1 => mFun 1 3
    (mSeq (mAsg 1 (mC (.int 0)))
     (mSeq (mFor (mIter (mBin dIx (mVar 0) (mC (.int 1)))) (mgName 2)
     (mAsg 1 (mCall dMax (mCons (mVar 1) (mCons (mCall (m_height_of_29386 n) (mCons (mVar 2) (mNil))) (mNil))))))
     (mRet (mBin dAdd (mVar 1) (mC (.int 1))))))
def m_law_2fde9 : List D → MH → R D := mFun 1 11
 (mSeq (mAsg 1 (mCall (m_cells_33ed8) (mCons (mVar 0) (mCons (mC (.int 1)) (mCons (mC (.int 60)) (mNil))))))
 (mSeq (mAsg 2 (mCall (m_parents_75466) (mCons (mVar 1) (mNil))))
 (mSeq (mAsg 3 (mCall (m_docs_a9091) (mCons (mVar 1) (mCons (mVar 2) (mNil)))))
 (mSeq (mAsg 4 (mCall (m_places_4e2eb) (mCons (mVar 2) (mNil))))
 (mSeq (mAsgT (mgTup (mgCons (mgName 8) (mgCons (mgName 9) (mgNil)))) (mCall (m_counts_299ff) (mCons (mVar 2) (mNil))))
 (mSeq (mAsg 5 (mCall (m_places_of_1d612 100) (mCons (mBin dIx (mVar 3) (mC (.int 0))) (mNil))))
 (mSeq (mIf (mNot (mB (mCall (m_alike_9d8a9) (mCons (mVar 5) (mCons (mCall dSortTI (mCons (mVar 4) (mNil))) (mNil))))))
 (mRet (mC (.bl false)))
 (mSkip))
 (mSeq (mDrop (mMeth isListD dAppend (mVar 5) (mCons (mTup (mCons (mC (.int 0)) (mNil))) (mNil))))
 (mSeq (mSetIx (mVar 5) (mC (.int 0)) (mTup (mCons (mCall dLen (mCons (mVar 4) (mNil))) (mNil))))
 (mSeq (mFor (mRange1 (mCall dLen (mCons (mVar 3) (mNil)))) (mgName 6)
 (mIf (mOr (mNot (mB (mCall (m_number_d6252) (mCons (mCall (m_size_of_efccc 100) (mCons (mBin dIx (mVar 3) (mVar 6)) (mNil))) (mCons (mBin dIx (mVar 8) (mVar 6)) (mNil)))))) (mNot (mB (mCall (m_number_d6252) (mCons (mCall (m_height_of_29386 100) (mCons (mBin dIx (mVar 3) (mVar 6)) (mNil))) (mCons (mBin dIx (mVar 9) (mVar 6)) (mNil)))))))
 (mRet (mC (.bl false)))
 (mSkip)))
 (mSeq (mAsg 6 (mBin dMod (mCall (m_cell_at_5ae90) (mCons (mVar 0) (mCons (mC (.int 0)) (mNil)))) (mCall dLen (mCons (mVar 3) (mNil)))))
 (mSeq (mAsg 7 (mLc (mIter (mCall dSortTI (mCons (mVar 4) (mNil)))) (mgName 10) (mB (mBin dEq (mSl (mVar 10) (mNo) (mSome (mCall dLen (mCons (mBin dIx (mVar 4) (mVar 6)) (mNil))))) (mBin dIx (mVar 4) (mVar 6)))) (mSl (mVar 10) (mSome (mCall dLen (mCons (mBin dIx (mVar 4) (mVar 6)) (mNil)))) (mNo)) [10]))
 (mRet (mAndV (mCall (m_alike_9d8a9) (mCons (mCall (m_places_of_1d612 100) (mCons (mBin dIx (mVar 3) (mVar 6)) (mNil))) (mCons (mVar 7) (mNil)))) (mCall (m_alike_9d8a9) (mCons (mCall (m_places_of_1d612 100) (mCons (mBin dIx (mVar 3) (mC (.int 0))) (mNil))) (mCons (mCall dSortTI (mCons (mVar 4) (mNil))) (mNil))))))))))))))))))
end Mi
namespace Mi
open PySem L2
/-! places, sizes, heights of a document -/
mutual
def Doc.pl03 : Doc → List (List Int)
  | .mk _ l => [] :: Doc.pls03 l 0
def Doc.pls03 : List Doc → Nat → List (List Int)
  | [], _ => []
  | d :: l, k => d.pl03.map ((k : Int) :: ·) ++ Doc.pls03 l (k + 1)
end
mutual
def Doc.sz03 : Doc → Nat
  | .mk _ l => 1 + Doc.szs03 l
def Doc.szs03 : List Doc → Nat
  | [] => 0
  | d :: l => d.sz03 + Doc.szs03 l
end
mutual
def Doc.ht03 : Doc → Nat
  | .mk _ l => Doc.hts03 l + 1
def Doc.hts03 : List Doc → Nat
  | [] => 0
  | d :: l => max d.ht03 (Doc.hts03 l)
end
theorem pls03_app : ∀ (a b : List Doc) (k : Nat), Doc.pls03 (a ++ b) k = Doc.pls03 a k ++ Doc.pls03 b (k + a.length)
  | [], b, k => by simp [Doc.pls03]
  | d :: a, b, k => by
    rw [List.cons_append, Doc.pls03, Doc.pls03, pls03_app a b (k + 1), List.append_assoc, List.length_cons]
    have : k + 1 + a.length = k + (a.length + 1) := by omega
    rw [this]
theorem take_sn03 {α : Type} {l : List α} {k : Nat} {c : α} (e : l[k]? = some c) : l.take (k + 1) = l.take k ++ [c] := by
  rw [List.take_add_one, e]; rfl
theorem pls03_take {l : List Doc} {k : Nat} {c : Doc} (e : l[k]? = some c) : Doc.pls03 (l.take (k + 1)) 0 = Doc.pls03 (l.take k) 0 ++ c.pl03.map ((k : Int) :: ·) := by
  have hk := (List.getElem?_eq_some_iff.mp e).1
  rw [take_sn03 e, pls03_app, List.length_take, Nat.min_eq_left (by omega), Nat.zero_add, Doc.pls03, Doc.pls03, List.append_nil]
theorem pl03_eq (d : Doc) : d.pl03 = [] :: Doc.pls03 d.ks 0 := by cases d; rw [Doc.pl03]; rfl
theorem sz03_eq (d : Doc) : d.sz03 = 1 + Doc.szs03 d.ks := by cases d; rw [Doc.sz03]; rfl
theorem ht03_eq (d : Doc) : d.ht03 = Doc.hts03 d.ks + 1 := by cases d; rw [Doc.ht03]; rfl
theorem szs03_app : ∀ a b : List Doc, Doc.szs03 (a ++ b) = Doc.szs03 a + Doc.szs03 b
  | [], b => by simp [Doc.szs03]
  | d :: a, b => by rw [List.cons_append, Doc.szs03, Doc.szs03, szs03_app a b]; omega
theorem hts03_app : ∀ a b : List Doc, Doc.hts03 (a ++ b) = max (Doc.hts03 a) (Doc.hts03 b)
  | [], b => by simp [Doc.hts03]
  | d :: a, b => by rw [List.cons_append, Doc.hts03, Doc.hts03, hts03_app a b]; omega
mutual
theorem pl03_len : ∀ d : Doc, d.pl03.length = d.sz03
  | .mk x l => by rw [Doc.pl03, Doc.sz03, List.length_cons, pls03_len l 0]; omega
theorem pls03_len : ∀ (l : List Doc) (k : Nat), (Doc.pls03 l k).length = Doc.szs03 l
  | [], k => by rw [Doc.pls03, Doc.szs03]; rfl
  | d :: l, k => by rw [Doc.pls03, Doc.szs03, List.length_append, List.length_map, pl03_len d, pls03_len l]
end
theorem pls03_mem {x : List Int} : ∀ (l : List Doc) (k : Nat), x ∈ Doc.pls03 l k ↔ ∃ (i : Nat) (c : Doc) (r : List Int), l[i]? = some c ∧ x = ((k + i : Nat) : Int) :: r ∧ r ∈ c.pl03
  | [], k => by simp [Doc.pls03]
  | d :: l, k => by
    rw [Doc.pls03, List.mem_append, pls03_mem l (k + 1), List.mem_map]
    constructor
    · rintro (⟨r, h1, rfl⟩ | ⟨i, c, r, h1, h2, h3⟩)
      · exact ⟨0, d, r, rfl, by simp, h1⟩
      · exact ⟨i + 1, c, r, by simpa using h1, by rw [h2]; congr 2; omega, h3⟩
    · rintro ⟨i, c, r, h1, h2, h3⟩
      cases i with
      | zero =>
        simp at h1
        subst h1
        exact .inl ⟨r, h3, by rw [h2]; rfl⟩
      | succ i => exact .inr ⟨i, c, r, by simpa using h1, by rw [h2]; congr 2; omega, h3⟩
theorem pl03_mem : ∀ {x : List Int} {d : Doc}, x ∈ d.pl03 ↔ ∃ c, d.at x = some c
  | [], d => by rw [pl03_eq]; simp [Doc.at]
  | z :: r, d => by
    rw [pl03_eq, List.mem_cons, pls03_mem, Doc.at]
    constructor
    · rintro (h | ⟨i, c, r', h1, h2, h3⟩)
      · cases h
      · cases h2
        rw [if_pos (by omega)]
        have : (((0 + i : Nat) : Int)).toNat = i := by omega
        rw [this, h1]
        exact (pl03_mem (x := r) (d := c)).mp h3
    · rintro ⟨c, h⟩
      split at h
      · rename_i hz
        split at h
        · rename_i c' e
          exact .inr ⟨z.toNat, c', r, e, by congr 1; omega, (pl03_mem (x := r) (d := c')).mpr ⟨c, h⟩⟩
        · cases h
      · cases h
mutual
theorem pl03_lt : ∀ d : Doc, d.pl03.Pairwise (· < ·)
  | .mk x l => by
    rw [Doc.pl03, List.pairwise_cons]
    refine ⟨fun a ha => ?_, pls03_lt l 0⟩
    obtain ⟨i, c, r, _, rfl, _⟩ := (pls03_mem l 0).mp ha
    exact List.nil_lt_cons _ _
theorem pls03_lt : ∀ (l : List Doc) (k : Nat), (Doc.pls03 l k).Pairwise (· < ·)
  | [], k => by rw [Doc.pls03]; exact .nil
  | d :: l, k => by
    rw [Doc.pls03, List.pairwise_append]
    refine ⟨?_, pls03_lt l (k + 1), fun a ha b hb => ?_⟩
    · rw [List.pairwise_map]
      exact (pl03_lt d).imp fun h => List.cons_lt_cons_iff.mpr (.inr ⟨rfl, h⟩)
    · obtain ⟨r, _, rfl⟩ := List.mem_map.mp ha
      obtain ⟨i, c, r', _, rfl, _⟩ := (pls03_mem l (k + 1)).mp hb
      exact List.cons_lt_cons_iff.mpr (.inl (by omega))
end
theorem lt_ne03 {a b : List Int} (h : a < b) : a ≠ b := fun e => by subst e; exact List.lt_irrefl _ h
theorem lt_asymm03 {a b : List Int} (h : a < b) : ¬ b < a := fun q => List.lt_irrefl _ (List.lt_trans h q)
theorem nd_of_lt03 {l : List (List Int)} (h : l.Pairwise (· < ·)) : l.Nodup := h.imp lt_ne03
theorem lt_ext03 {l m : List (List Int)} (hl : l.Pairwise (· < ·)) (hm : m.Pairwise (· < ·)) (h : ∀ x, x ∈ l ↔ x ∈ m) : l = m :=
  List.Perm.eq_of_pairwise (le := (· < ·)) (fun a b _ _ h1 h2 => absurd h2 (lt_asymm03 h1)) hl hm ((List.perm_ext_iff_of_nodup (nd_of_lt03 hl) (nd_of_lt03 hm)).mpr h)
theorem le_trans03 (a b c : List Int) (h1 : decide (a ≤ b) = true) (h2 : decide (b ≤ c) = true) : decide (a ≤ c) = true := decide_eq_true (List.le_trans (of_decide_eq_true h1) (of_decide_eq_true h2))
theorem le_total03 (a b : List Int) : (decide (a ≤ b) || decide (b ≤ a)) = true := by
  rcases List.le_total a b with h | h <;> simp [h]
theorem sort_lt03 {l : List (List Int)} (hn : l.Nodup) : (sortTI l).Pairwise (· < ·) := by
  have h1 := List.pairwise_mergeSort (le := fun p q : List Int => decide (p ≤ q)) le_trans03 le_total03 l
  have h2 : (sortTI l).Nodup := (List.mergeSort_perm l _).nodup_iff.mpr hn
  refine (h1.and h2).imp fun {a b} ⟨p, q⟩ => ?_
  have p := of_decide_eq_true p
  rcases Decidable.em (a < b) with z | z
  · exact z
  · exact absurd (List.le_antisymm p (List.not_lt.mp z)) q
theorem sort_mem03 {l : List (List Int)} {x : List Int} : x ∈ sortTI l ↔ x ∈ l := (List.mergeSort_perm l _).mem_iff
theorem sort_eq03 {l m : List (List Int)} (hn : l.Nodup) (hm : m.Pairwise (· < ·)) (h : ∀ x, x ∈ l ↔ x ∈ m) : sortTI l = m :=
  lt_ext03 (sort_lt03 hn) hm fun x => sort_mem03.trans (h x)
theorem lt_app03 : ∀ {p a b : List Int}, p ++ a < p ++ b ↔ a < b
  | [], a, b => Iff.rfl
  | z :: p, a, b => by
    rw [List.cons_append, List.cons_append, List.cons_lt_cons_iff, lt_app03 (p := p)]
    constructor
    · rintro (h | ⟨_, h⟩)
      · omega
      · exact h
    · exact fun h => .inr ⟨rfl, h⟩
/-- the places below one, without what leads to it -/
theorem below03 {d c : Doc} {pl : List Int} (e : d.at pl = some c) : (d.pl03.filter fun x => decide (x.take pl.length = pl)).map (·.drop pl.length) = c.pl03 := by
  refine lt_ext03 ?_ (pl03_lt c) fun y => ?_
  · rw [List.pairwise_map, List.pairwise_filter]
    refine (pl03_lt d).imp fun {a b} h ha hb => ?_
    have ha := of_decide_eq_true ha
    have hb := of_decide_eq_true hb
    rw [← List.take_append_drop pl.length a, ← List.take_append_drop pl.length b, ha, hb] at h
    exact lt_app03.mp h
  · rw [List.mem_map, pl03_mem]
    constructor
    · rintro ⟨x, hx, rfl⟩
      rw [List.mem_filter] at hx
      obtain ⟨h1, h2⟩ := hx
      obtain ⟨c', h1⟩ := pl03_mem.mp h1
      have h2 := of_decide_eq_true h2
      rw [← List.take_append_drop pl.length x, h2, at_app, e] at h1
      exact ⟨c', h1⟩
    · rintro ⟨c', h⟩
      refine ⟨pl ++ y, List.mem_filter.mpr ⟨pl03_mem.mpr ⟨c', by rw [at_app, e]; exact h⟩, by simp⟩, by simp⟩
/-! the places of documents by their parents -/
section
variable {pn : Nat → Nat} {n : Nat} {f : Nat → Doc} {q : Nat → List Int}
theorem kids_nd03 {k : Nat} : (kids pn n k).Nodup := List.nodup_range.filter _
theorem kid_cnt03 {k t i : Nat} (hi : (kids pn n k)[t]? = some i) : cntF pn i (pn i) = t ∧ 0 < i ∧ i < n ∧ pn i = k := by
  obtain ⟨a, b, c⟩ := kids_mem (List.mem_of_getElem? hi)
  refine ⟨?_, b, a, c⟩
  have h1 := kid_at (pn := pn) b a
  rw [c] at h1 ⊢
  exact (List.getElem?_inj (List.getElem?_eq_some_iff.mp h1).1 kids_nd03).mp (h1.trans hi.symm)
theorem at_places03 (hp : PnOk pn n) (hf : DocsF pn n 0 f) (hq : PlF pn n q) : ∀ (x : List Int) (k : Nat) (c : Doc), k < n → (f k).at x = some c → ∃ j, j < n ∧ q k ++ x = q j
  | [], k, c, hk, _ => ⟨k, hk, by simp⟩
  | z :: r, k, c, hk, h => by
    obtain ⟨y, _, e⟩ := hf k (Nat.zero_le _) hk
    rw [e, Doc.at] at h
    split at h
    · rename_i hz
      split at h
      · rename_i c' e'
        have e' : ((kids pn n k).map f)[z.toNat]? = some c' := e'
        rw [List.getElem?_map, Option.map_eq_some_iff] at e'
        obtain ⟨i, e1, rfl⟩ := e'
        obtain ⟨h1, h2, h3, h4⟩ := kid_cnt03 e1
        obtain ⟨j, h5, h6⟩ := at_places03 hp hf hq r i c h3 h
        refine ⟨j, h5, ?_⟩
        rw [← h6, hq.2 i h2 h3, h1, h4, List.append_assoc]
        congr 2
        omega
      · cases h
    · cases h
theorem q_inj03 (hp : PnOk pn n) (hq : PlF pn n q) : ∀ (m i j : Nat), i ≤ m → i < n → j < n → q i = q j → i = j
  | m, i, j, hm, hi, hj, e => by
    rcases Nat.eq_zero_or_pos i with z | z
    · rcases Nat.eq_zero_or_pos j with y | y
      · omega
      · rw [z, hq.1, hq.2 j y hj] at e
        simp at e
    · rcases Nat.eq_zero_or_pos j with y | y
      · rw [y, hq.1, hq.2 i z hi] at e
        simp at e
      · have h1 := hp i z hi
        have h2 := hp j y hj
        rw [hq.2 i z hi, hq.2 j y hj] at e
        have e1 := List.append_inj' e rfl
        cases m with
        | zero => omega
        | succ m =>
          have e2 := q_inj03 hp hq m (pn i) (pn j) (by omega) (by omega) (by omega) e1.1
          have e3 : cntF pn i (pn i) = cntF pn j (pn j) := by
            have := e1.2
            simp at this
            omega
          have a1 := kid_at (pn := pn) z hi
          have a2 := kid_at (pn := pn) y hj
          rw [e3, e2] at a1
          rw [a1] at a2
          exact Option.some.inj a2
theorem places03 (hp : PnOk pn n) (h0 : 0 < n) (hf : DocsF pn n 0 f) (hq : PlF pn n q) : sortTI ((List.range n).map q) = (f 0).pl03 := by
  refine sort_eq03 ?_ (pl03_lt _) fun x => ?_
  · rw [List.Nodup, List.pairwise_map]
    refine (List.nodup_range (n := n)).imp_of_mem fun {a b} ha hb h e => h ?_
    exact q_inj03 hp hq a a b (Nat.le_refl _) (List.mem_range.mp ha) (List.mem_range.mp hb) e
  · rw [List.mem_map, pl03_mem]
    constructor
    · rintro ⟨k, hk, rfl⟩
      rw [List.mem_range] at hk
      exact ⟨_, stands hp hf hq k k (Nat.le_refl _) hk⟩
    · rintro ⟨c, h⟩
      obtain ⟨j, h1, h2⟩ := at_places03 hp hf hq x 0 c h0 h
      rw [hq.1, List.nil_append] at h2
      exact ⟨j, List.mem_range.mpr h1, h2.symm⟩
theorem sz_le03 (hp : PnOk pn n) (hf : DocsF pn n 0 f) (hq : PlF pn n q) {k : Nat} (hk : k < n) : (f k).sz03 ≤ n := by
  have h1 := below03 (stands hp hf hq k k (Nat.le_refl _) hk)
  have h2 := places03 hp (by omega) hf hq
  rw [← pl03_len, ← h1, List.length_map]
  refine Nat.le_trans (List.length_filter_le _ _) ?_
  rw [← h2]
  unfold sortTI
  rw [List.length_mergeSort]
  simp
end
end Mi
namespace Mi
open PySem L2
local macro_rules | `(tactic| walk_at "gl") => `(tactic| first
  | assumption
  | (refine Own.atL (h0 := ?_) (L := ?_) ?_ 0 ?_; rotate_left; rotate_left; assumption; rfl)
  | (refine Own.atL (h0 := ?_) (L := ?_) ?_ 1 ?_; rotate_left; rotate_left; assumption; rfl)
  | (refine Own.atL (h0 := ?_) (L := ?_) ?_ 2 ?_; rotate_left; rotate_left; assumption; rfl)
  | (refine Own.atL (h0 := ?_) (L := ?_) ?_ 3 ?_; rotate_left; rotate_left; assumption; rfl)
  | (refine Own.atL (h0 := ?_) (L := ?_) ?_ 4 ?_; rotate_left; rotate_left; assumption; rfl)
  | (refine Own.atL (h0 := ?_) (L := ?_) ?_ 5 ?_; rotate_left; rotate_left; assumption; rfl)
  | (refine Own.atL (h0 := ?_) (L := ?_) ?_ 6 ?_; rotate_left; rotate_left; assumption; rfl)
  | (refine Own.atL (h0 := ?_) (L := ?_) ?_ 7 ?_; rotate_left; rotate_left; assumption; rfl)
  | (refine Own.atL (h0 := ?_) (L := ?_) ?_ 8 ?_; rotate_left; rotate_left; assumption; rfl)
  | (refine Own.atL (h0 := ?_) (L := ?_) ?_ 9 ?_; rotate_left; rotate_left; assumption; rfl)
  | (refine Own.getL (h0 := ?_) (L := ?_) ?_ ?_; rotate_left; rotate_left; assumption; assumption))
local macro_rules | `(tactic| walk_at "il") => `(tactic| first
  | (refine Own.isL (h0 := ?_) (L := ?_) (l := ?_) ?_ 0 ?_; rotate_left; rotate_left; rotate_left; assumption; rfl)
  | (refine Own.isL (h0 := ?_) (L := ?_) (l := ?_) ?_ 1 ?_; rotate_left; rotate_left; rotate_left; assumption; rfl)
  | (refine Own.isL (h0 := ?_) (L := ?_) (l := ?_) ?_ 2 ?_; rotate_left; rotate_left; rotate_left; assumption; rfl)
  | (refine Own.isL (h0 := ?_) (L := ?_) (l := ?_) ?_ 3 ?_; rotate_left; rotate_left; rotate_left; assumption; rfl)
  | (refine Own.isL (h0 := ?_) (L := ?_) (l := ?_) ?_ 4 ?_; rotate_left; rotate_left; rotate_left; assumption; rfl)
  | (refine Own.isL (h0 := ?_) (L := ?_) (l := ?_) ?_ 5 ?_; rotate_left; rotate_left; rotate_left; assumption; rfl)
  | (refine Own.isL (h0 := ?_) (L := ?_) (l := ?_) ?_ 6 ?_; rotate_left; rotate_left; rotate_left; assumption; rfl)
  | (refine Own.isL (h0 := ?_) (L := ?_) (l := ?_) ?_ 7 ?_; rotate_left; rotate_left; rotate_left; assumption; rfl)
  | (refine Own.isL (h0 := ?_) (L := ?_) (l := ?_) ?_ 8 ?_; rotate_left; rotate_left; rotate_left; assumption; rfl)
  | (refine Own.isL (h0 := ?_) (L := ?_) (l := ?_) ?_ 9 ?_; rotate_left; rotate_left; rotate_left; assumption; rfl))
local macro_rules | `(tactic| walk_at "bd") => `(tactic| first | assumption | omega | (simp; done) | (simp; omega) | (simp [*]; done) | (simp [*]; omega))
local macro_rules | `(tactic| walk_at "w") => `(tactic| first
  | ((with_reducible refine w_xfK ?_ ?_ ?_); (exact List.mem_cons_self); (decide))
  | with_reducible refine w_eq (isN_xo _) ?_
  | with_reducible refine w_eq (dNeg_int _ _) ?_)
local macro_rules | `(tactic| walk_at "w") => `(tactic| first
  | ((with_reducible refine w_addT ?_ ?_); walk_at "bd")
  | ((with_reducible refine ⟨?_, ?_⟩); (with_reducible (show isListD (.ref _) _ = true)); walk_at "il")
  | with_reducible refine w_tryK ?_
  | with_reducible refine w_raise ?_
  | with_reducible refine w_raise0 ?_
  | with_reducible refine w_isX ?_
  | ((with_reducible refine w_isXK (k := ?_) ?_ ?_); rotate_left; (first | with_reducible exact lkA | (apply lkB; decide +kernel; exact lkA) | (apply lkB; decide +kernel; apply lkB; decide +kernel; exact lkA) | (apply lkB; decide +kernel; apply lkB; decide +kernel; apply lkB; decide +kernel; exact lkA)))
  | with_reducible refine w_xf ?_)
local macro_rules | `(tactic| walk_at "w") => `(tactic| first
  | with_reducible refine w_eq (isi_bool_int _ _) ?_
  | with_reducible refine w_eq (isi_str_int _ _) ?_
  | ((with_reducible refine w_lenLm (α := ?_) (f := ?_) (l := ?_) ?_ ?_); rotate_left; rotate_left; rotate_left; walk_at "gl")
  | ((with_reducible refine w_lenL (l := ?_) ?_ ?_); rotate_left; walk_at "gl")
  | ((with_reducible refine w_iterL (l := ?_) ?_ ?_); rotate_left; walk_at "gl"; dsimp only)
  | ((with_reducible refine w_tupL (l := ?_) ?_ ?_); rotate_left; walk_at "gl")
  | ((with_reducible refine w_ixT (d := ?_) ?_ ?_); rotate_left; (first | with_reducible assumption | rfl))
  | ((with_reducible refine w_ixL (l := ?_) (d := ?_) ?_ ?_ ?_); rotate_left; rotate_left; walk_at "gl"; (first | with_reducible assumption | rfl)))
local macro_rules | `(tactic| walk_at "w") => `(tactic| first
  | with_reducible refine w_chK ?_
  | with_reducible refine w_retN ?_
  | with_reducible refine w_brk ?_
  | with_reducible refine w_cont ?_
  | with_reducible refine w_asgT ?_
  | with_reducible refine w_eq (isi_str_str _ _) ?_
  | with_reducible refine w_eq (isi_int_int _ _) ?_
  | with_reducible refine w_eq (isi_tup_tup _ _) ?_)
local macro_rules | `(tactic| walk_at "w") => `(tactic| first
  | with_reducible refine w_revL ?_
  | with_reducible refine w_listRg1 ?_
  | with_reducible refine w_tindex ?_
  | with_reducible refine w_setIx ?_
  | with_reducible refine w_un ?_
  | with_reducible refine w_rev1 ?_
  | with_reducible refine w_rev2 ?_
  | with_reducible refine w_chain ?_)
local macro_rules | `(tactic| walk_at "w") => `(tactic| first
  | with_reducible refine w_zip ?_
  | with_reducible refine w_ifE ?_
  | with_reducible refine w_andV ?_
  | with_reducible refine w_orV ?_
  | with_reducible refine w_notV ?_
  | with_reducible refine w_andK ?_
  | with_reducible refine w_orK ?_
  | with_reducible refine w_notK ?_)
local macro_rules | `(tactic| walk_at "w") => `(tactic| first
  | with_reducible refine w_eq (iter1_tup _ _) ?_
  | with_reducible refine w_eq (iter1_str _ _) ?_
  | with_reducible refine w_sl ?_
  | with_reducible refine w_no ?_
  | with_reducible refine w_some ?_
  | with_reducible refine w_unI ?_
  | with_reducible refine w_meth ?_
  | with_reducible refine w_isi ?_)
local macro_rules | `(tactic| walk_at "w") => `(tactic| first
  | with_reducible refine w_lst ?_
  | with_reducible refine w_lc ?_
  | with_reducible refine w_for ?_
  | with_reducible refine w_range1 ?_
  | with_reducible refine w_range2 ?_
  | ((with_reducible refine w_dR1 ?_ ?_); (first | decide | omega))
  | ((with_reducible refine w_dR2 ?_ ?_); (first | decide | omega))
  | with_reducible refine w_iter ?_)
local macro_rules | `(tactic| walk_at "w") => `(tactic| first
  | with_reducible refine w_or ?_
  | with_reducible refine br_n ?_
  | with_reducible refine br_tt ?_
  | with_reducible refine br_ff ?_
  | ((with_reducible refine br_dt ?_ ?_); (first | assumption | omega | rfl))
  | ((with_reducible refine br_df ?_ ?_); (first | assumption | omega))
  | with_reducible refine w_tup ?_
  | ((with_reducible refine w_toTup ?_ ?_); exact (by simp)))
local macro_rules | `(tactic| walk_at "w") => `(tactic| first
  | with_reducible refine w_lenTm ?_
  | with_reducible refine w_eq (dLen_tup _ _) ?_
  | with_reducible refine w_eq (dSl_tup _ _ _ _) ?_
  | with_reducible refine w_eq (dMax_ev _ _ _) ?_
  | with_reducible refine w_eq (dMin_ev _ _ _) ?_
  | with_reducible refine w_eq (dAbs_ev _ _) ?_
  | with_reducible refine w_not ?_
  | with_reducible refine w_and ?_)
local macro_rules | `(tactic| walk_at "w") => `(tactic| first
  | with_reducible refine w_eq (dGe_int _ _ _) ?_
  | with_reducible refine w_eq (dNe_int _ _ _) ?_
  | ((with_reducible refine w_mod ?_ ?_); (first | assumption | decide | omega))
  | ((with_reducible refine w_fdiv ?_ ?_); (first | assumption | decide | omega))
  | ((with_reducible refine w_mulS ?_ ?_); (first | decide | omega))
  | ((with_reducible refine w_addS ?_ ?_); (first | assumption | decide | omega))
  | ((with_reducible refine w_lenS ?_ ?_); (first | assumption | decide | omega))
  | ((with_reducible refine w_slS ?_ ?_); (first | assumption | decide | omega)))
local macro_rules | `(tactic| walk_at "w") => `(tactic| first
  | with_reducible refine w_eq (dEq_int _ _ _) ?_
  | with_reducible refine w_eq (dEq_str _ _ _) ?_
  | with_reducible refine w_eq (dNe_strs _ _ _) ?_
  | with_reducible refine w_eq (dEq_bls _ _ _) ?_
  | with_reducible refine w_eq (dNe_bls _ _ _) ?_
  | with_reducible refine w_eq (dLt_int _ _ _) ?_
  | with_reducible refine w_eq (dLe_int _ _ _) ?_
  | with_reducible refine w_eq (dGt_int _ _ _) ?_)
local macro_rules | `(tactic| walk_at "w") => `(tactic| first
  | with_reducible refine w_if ?_
  | with_reducible refine w_B ?_
  | with_reducible refine w_unB ?_
  | with_reducible refine w_ret ?_
  | with_reducible refine w_drop ?_
  | with_reducible refine w_skip ?_
  | with_reducible refine w_eq (dAdd_int _ _ _) ?_
  | with_reducible refine w_eq (dSub_int _ _ _) ?_)
local macro_rules | `(tactic| walk_at "w") => `(tactic| first
  | with_reducible refine w_seq ?_
  | with_reducible refine w_asg ?_
  | with_reducible refine w_cons ?_
  | with_reducible refine w_nil ?_
  | with_reducible refine w_c ?_
  | ((with_reducible refine w_var (d := ?_) ?_ ?_); rotate_left; rfl)
  | with_reducible refine w_bin ?_
  | with_reducible refine w_call ?_)
local macro_rules | `(tactic| walk_at "go") => `(tactic| (repeat (walk_at "w")); try dsimp only [List.set])
local macro_rules | `(tactic| walk_at "fn") => `(tactic| ((refine w_fun ?_); simp only [startD, List.map_cons, List.map_nil, List.reduceReplicate, Nat.reduceSub, List.cons_append, List.nil_append]; walk_at "go"))
section
local macro_rules | `(tactic| walk_at "lk") => `(tactic| first | with_reducible exact lkA | (apply lkB; decide +kernel; walk_at "lk"))
local macro_rules | `(tactic| walk_at "mk") => `(tactic| first | with_reducible exact mkA | (apply mkB; decide +kernel; walk_at "mk"))
local macro_rules | `(tactic| walk_at "fk") => `(tactic| first | with_reducible exact fkA | exact fkN | (apply fkB; decide +kernel; walk_at "fk"))
local macro_rules | `(tactic| walk_at "cs") => `(tactic| first | exact List.mem_cons_self | (apply List.mem_cons_of_mem; walk_at "cs"))
local macro_rules | `(tactic| walk_at "w") => `(tactic| first
  | with_reducible refine w_fld ?_
  | ((with_reducible refine w_fldK (c := ?_) (fs := ?_) (v := ?_) ?_ ?_ ?_ ?_); rotate_left; rotate_left; rotate_left; (with_reducible assumption); (walk_at "cs"); (walk_at "fk"))
  | with_reducible refine w_setFld ?_
  | with_reducible refine w_new ?_
  | with_reducible refine w_methI ?_
  | ((with_reducible refine w_methK (c := ?_) (fs := ?_) (F := ?_) ?_ ?_ ?_ ?_); rotate_left; rotate_left; rotate_left; (with_reducible assumption); (walk_at "mk"); (walk_at "fk"))
  | with_reducible refine w_isC ?_
  | ((with_reducible refine w_isCK (c := ?_) (fs := ?_) (k := ?_) ?_ ?_ ?_); rotate_left; rotate_left; rotate_left; (with_reducible assumption); (walk_at "lk"))
  | with_reducible refine w_callD ?_
  | with_reducible refine w_mDSet ?_
  | with_reducible refine w_eq (nN_non _) ?_
  | with_reducible refine w_eq (nN_int _ _) ?_
  | with_reducible refine w_eq (nN_tup _ _) ?_
  | with_reducible refine w_eq (nN_ref _ _) ?_
  | with_reducible refine w_eq (iN_non _) ?_
  | with_reducible refine w_eq (iN_int _ _) ?_
  | with_reducible refine w_eq (iN_tup _ _) ?_
  | with_reducible refine w_eq (iN_ref _ _) ?_)
section
open PySem L2


def Some03 (n : Nat) : Prop := 1 ≤ n ∧ (n ≤ 99 ∨ n = 290)
theorem cc_cells03 {ns : List Int} (hb : ∀ z ∈ ns, Cell z) (hn : ns.length ≤ 63) {h : MH} {i : Nat} (hl : getL h i = some (ns.map D.int)) :
    Sat (m_cells_33ed8 [.ref i, .int 1, .int 60] h) (fun d h' => ∃ (j : Nat) (cs : List Int), d = .ref j ∧ Own h h' [(j, cs.map .int)] ∧ (∀ c ∈ cs, CellP c) ∧ Some03 cs.length) noX := by
  walk_at "fn"
  refine (cc_at hb hl (by decide)).mono ?_
  rintro d h1 ⟨rfl, fst, rfl, hf⟩
  walk_at "go"
  refine br_d (fun c => ?_) (fun c => ?_)
  rotate_left
  · walk_at "go"
    refine o_comp (fun _ y => ∃ c, y = .int c ∧ CellP c) (Own.nil h1) (by simp; omega) (fun _ _ => rfl) ?_ ?_
    · intro k d h' hd hp
      obtain ⟨hk, rfl⟩ := rangeD_get hd
      refine ⟨_, rfl, ?_⟩
      dsimp only [wipeD, List.set]
      walk_at "go"
      exact (cc_at hb (pre_getL hp hl) (by omega)).mono fun d h' hh => hh
    · intro ys hy hp j h' o
      obtain ⟨cs, rfl, hcs⟩ := ints_all hp
      rw [List.length_map, rangeD_length] at hy
      refine ⟨j, cs, rfl, o, hcs, ?_, .inl ?_⟩ <;> (repeat' split at hy) <;> omega
  · walk_at "go"
    refine o_new (Own.nil h1) (by simp) fun iL h2 o2 => ?_
    have hm := mod_in (fst / 3) (n := 60) (by decide)
    walk_at "go"
    refine br_mid (fun ρ h' => Own h1 h' [(iL, [])] ∧ ∃ m : Int, ρ = [some (.ref i), some (.int 1), some (.int 60), some (.int fst), some (.int fst), some (.ref iL), some (.int m), none] ∧ 0 ≤ m ∧ Some03 m.toNat) ?_ ?_
    · refine br_d (fun q => ?_) (fun q => ?_)
      · walk_at "go"
        exact ⟨o2, 290, rfl, by decide, by decide, .inr rfl⟩
      · walk_at "go"
        exact ⟨o2, _, rfl, by omega, by omega, .inl (by omega)⟩
    rintro ρ h3 ⟨o3, m, rfl, hm0, hm1⟩
    walk_at "go"
    refine br_mid (fun ρ h' => h' = h3 ∧ ∃ m : Int, ρ = [some (.ref i), some (.int 1), some (.int 60), some (.int fst), some (.int fst), some (.ref iL), some (.int m), none] ∧ 0 ≤ m ∧ Some03 m.toNat) ?_ ?_
    · refine br_d (fun q => ?_) (fun q => ?_)
      · walk_at "go"
        exact ⟨rfl, 63, rfl, by decide, by decide, .inl (by decide)⟩
      · walk_at "go"
        exact ⟨rfl, m, rfl, hm0, hm1⟩
    rintro ρ h5 ⟨rfl, m, rfl, hm0, hm1⟩
    have hm1000 : m.toNat ≤ 1000 := by unfold Some03 at hm1; omega
    walk_at "go"
    refine w_loop0 (fun k ρ h' => ∃ (n : Int) (o7 : Option D) (cs : List Int), ρ = [some (.ref i), some (.int 1), some (.int 60), some (.int fst), some (.int n), some (.ref iL), some (.int m), o7] ∧ Own h1 h' [(iL, cs.map .int)] ∧ (∀ c ∈ cs, CellP c) ∧ cs.length = k ∧ CellP n) ⟨fst, none, [], rfl, o3, fun c hc => by simp at hc, rfl, hf⟩ (fun _ _ _ _ => rfl) ?_ ?_
    · rintro k d ρ h' hd ⟨n, o7, cs, rfl, o, hcs, hk, hnn⟩
      obtain ⟨hk', rfl⟩ := rangeD_get hd
      refine ⟨_, rfl, ?_⟩
      dsimp only [List.set]
      walk_at "go"
      refine w_mulB (a := 1048576) (b := 64) hnn.1 (bits_small (by decide) (by decide)) (by decide) ?_
      walk_at "go"
      have hz := mod_in (n * 48271 + 12345 + (0 + (k : Int))) (n := 2147483647) (by decide)
      generalize (n * 48271 + 12345 + (0 + (k : Int))) % 2147483647 = z at *
      walk_at "go"
      refine o_app o 0 rfl (by simp; omega) fun h5 o5 => ?_
      rw [List.set_cons_zero, map_app1] at o5
      have hz' : CellP z := ⟨cell_small hz.1 (by omega), hz.1⟩
      exact ⟨z, _, _, rfl, o5, mem_app hcs hz', by simp [hk], hz'⟩
    · rintro ρ h' ⟨n, o7, cs, rfl, o, hcs, hk, hnn⟩
      rw [rangeD_length] at hk
      walk_at "go"
      exact ⟨iL, cs, rfl, o, hcs, by rw [hk]; exact hm1⟩
structure Par03 (ps : List Int) (n : Nat) : Prop where
  par : Par ps
  mid : 200 < n → ∀ (k : Nat) p, 0 < k → ps[k]? = some p → p = ((k : Int) - 1) / 49
theorem snoc_get03 {ps : List Int} {p : Int} {S : Nat → Int → Prop} (h : ∀ (k : Nat) q, 0 < k → ps[k]? = some q → S k q) (hp : S ps.length p) : ∀ (k : Nat) q, 0 < k → (ps ++ [p])[k]? = some q → S k q := fun k q hk e => by
  rcases Nat.lt_or_ge k ps.length with z | z
  · rw [List.getElem?_append_left z] at e
    exact h k q hk e
  · rw [List.getElem?_append_right z] at e
    have h0 : k - ps.length = 0 := by
      have := (List.getElem?_eq_some_iff.mp e).1
      simp at this; omega
    rw [h0] at e
    simp at e
    have : k = ps.length := by omega
    rw [this, ← e]
    exact hp
theorem cc_parents03 {cs : List Int} (hcs : ∀ c ∈ cs, CellP c) (h1 : 1 ≤ cs.length) (h2 : cs.length ≤ 1000) {h : MH} {i : Nat} (hl : getL h i = some (cs.map D.int)) :
    Sat (m_parents_75466 [.ref i] h) (fun d h' => ∃ (j : Nat) (ps : List Int), d = .ref j ∧ Own h h' [(j, ps.map .int)] ∧ Par03 ps cs.length ∧ ps.length = cs.length) noX := by
  walk_at "fn"
  obtain ⟨c0, e0, _⟩ := map_at (f := D.int) (l := cs) (k := 0) (by decide) (by omega)
  walk_at "go"
  have hw := mod_in c0 (n := 4) (by decide)
  generalize c0 % 4 = way at *
  refine o_new (Own.nil h) (by simp) fun iL h2 o2 => ?_
  walk_at "go"
  refine w_loop0 (fun k ρ h' => ∃ o3 o4 o5, ∃ ps : List Int, ρ = [some (.ref i), some (.int way), some (.ref iL), o3, o4, o5] ∧ Own h h' [(iL, ps.map .int)] ∧ Par03 ps cs.length ∧ ps.length = k + 1) ⟨none, none, none, [0], rfl, o2, ⟨⟨rfl, fun k p hk e => by
    have := (List.getElem?_eq_some_iff.mp e).1
    simp at this; omega⟩, fun _ k p hk e => by
    have := (List.getElem?_eq_some_iff.mp e).1
    simp at this; omega⟩, rfl⟩ (fun _ _ _ _ => rfl) ?_ ?_
  · rintro k d ρ h' hd ⟨o3, o4, o5, ps, rfl, o, hp, hk⟩
    obtain ⟨hk', rfl⟩ := rangeD_get hd
    refine ⟨_, rfl, ?_⟩
    dsimp only [List.set]
    have hkk : (1 : Int) + (k : Int) = ((k + 1 : Nat) : Int) := by omega
    rw [hkk]
    obtain ⟨ck, ek, ek'⟩ := map_at (f := D.int) (l := cs) (k := ((k + 1 : Nat) : Int)) (by omega) (by omega)
    have hck := hcs ck (List.mem_of_getElem? ek')
    walk_at "go"
    refine w_mulB (a := 1048576) (b := 64) hck.1 (bits_small (by decide) (by decide)) (by decide) ?_
    walk_at "go"
    generalize ck * 16807 % 2147483629 / 5 = bl at *
    refine br_mid (fun ρ h1 => h1 = h' ∧ ∃ far, ρ = [some (.ref i), some (.int way), some (.ref iL), some (.int ((k + 1 : Nat) : Int)), some (.int bl), some (.int far)] ∧ 0 ≤ far ∧ far ≤ (k : Int)) ?_ ?_
    · refine br_d (fun c => ?_) (fun c => ?_)
      · walk_at "go"
        exact ⟨rfl, _, rfl, mod_bd (by omega) (by omega)⟩
      · walk_at "go"
        exact ⟨rfl, _, rfl, mod_bd (by omega) (by omega)⟩
    rintro ρ h3 ⟨rfl, far, rfl, hfar⟩
    walk_at "go"
    refine br_mid (fun ρ h1 => h1 = h3 ∧ ∃ far, ρ = [some (.ref i), some (.int way), some (.ref iL), some (.int ((k + 1 : Nat) : Int)), some (.int bl), some (.int far)] ∧ 0 ≤ far ∧ far ≤ (k : Int)) ?_ ?_
    · refine br_d (fun c => ?_) (fun c => ?_)
      · walk_at "go"
        have := mod_bd (x := bl) (m := if (2 : Int) < ((k + 1 : Nat) : Int) then 2 else ((k + 1 : Nat) : Int)) (K := k) (by omega) (by omega)
        exact ⟨rfl, _, rfl, by omega, by omega⟩
      · walk_at "go"
        exact ⟨rfl, _, rfl, hfar⟩
    rintro ρ h4 ⟨rfl, far, rfl, hfar⟩
    walk_at "go"
    refine br_mid (fun ρ h1 => h1 = h4 ∧ ∃ far, ρ = [some (.ref i), some (.int way), some (.ref iL), some (.int ((k + 1 : Nat) : Int)), some (.int bl), some (.int far)] ∧ 0 ≤ far ∧ far ≤ (k : Int)) ?_ ?_
    · refine br_d (fun c => ?_) (fun c => ?_)
      · walk_at "go"
        exact ⟨rfl, _, rfl, mod_bd (by omega) (by omega)⟩
      · walk_at "go"
        exact ⟨rfl, _, rfl, hfar⟩
    rintro ρ h5 ⟨rfl, far, rfl, hfar⟩
    walk_at "go"
    refine w_pow (n := 18) (by decide) ?_
    walk_at "go"
    refine br_mid (fun ρ h1 => h1 = h5 ∧ ∃ far, ρ = [some (.ref i), some (.int way), some (.ref iL), some (.int ((k + 1 : Nat) : Int)), some (.int bl), some (.int far)] ∧ 0 ≤ far ∧ far ≤ (k : Int)) ?_ ?_
    · refine br_d (fun c => ?_) (fun c => ?_)
      · walk_at "go"
        refine w_pow (n := 8) (by decide) ?_
        refine w_mulS (by decide) ?_
        refine w_fdiv (by decide) ?_
        walk_at "go"
        exact ⟨rfl, _, rfl, mod_bd (by omega) (by omega)⟩
      · walk_at "go"
        exact ⟨rfl, _, rfl, hfar⟩
    rintro ρ h6 ⟨rfl, far, rfl, hfar⟩
    walk_at "go"
    refine br_mid (fun ρ h1 => h1 = h6 ∧ ∃ far, ρ = [some (.ref i), some (.int way), some (.ref iL), some (.int ((k + 1 : Nat) : Int)), some (.int bl), some (.int far)] ∧ 0 ≤ far ∧ far ≤ (k : Int) ∧ (200 < cs.length → far = (k : Int) - (k : Int) / 49)) ?_ ?_
    · refine br_d (fun c => ?_) (fun c => ?_)
      · walk_at "go"
        exact ⟨rfl, _, rfl, by omega, by omega, fun _ => by omega⟩
      · walk_at "go"
        exact ⟨rfl, _, rfl, hfar.1, hfar.2, fun _ => by omega⟩
    rintro ρ h8 ⟨rfl, far, rfl, hfar⟩
    have fin : ∀ far : Int, 0 ≤ far → far ≤ (k : Int) → (200 < cs.length → far = (k : Int) - (k : Int) / 49) →
        Sat (dAppend (.ref iL) [.int (((k + 1 : Nat) : Int) - 1 - far)] h8) (fun _ h' => ∃ o3 o4 o5, ∃ ps : List Int, [some (D.ref i), some (.int way), some (.ref iL), some (.int ((k + 1 : Nat) : Int)), some (.int bl), some (.int far)] = [some (.ref i), some (.int way), some (.ref iL), o3, o4, o5] ∧ Own h h' [(iL, ps.map .int)] ∧ Par03 ps cs.length ∧ ps.length = k + 1 + 1) noX := by
      intro far hf0 hf1 hf2
      refine o_app o 0 rfl (by simp; omega) fun h10 o10 => ?_
      rw [List.set_cons_zero, map_app1] at o10
      refine ⟨_, _, _, _, rfl, o10, ⟨hp.par.app (by omega) (by omega) (by omega), fun a => snoc_get03 (hp.mid a) ?_⟩, by simp [hk]⟩
      have := hf2 a
      rw [hk]
      omega
    walk_at "go"
    refine br_d (fun q1 => ?_) (fun q1 => ?_)
    · walk_at "go"
      exact fin 0 (by omega) (by omega) (by omega)
    · walk_at "go"
      exact fin far hfar.1 hfar.2.1 hfar.2.2
  · rintro ρ h' ⟨o3, o4, o5, ps, rfl, o, hp, hk⟩
    rw [rangeD_length] at hk
    walk_at "go"
    exact ⟨iL, ps, rfl, o, hp, by omega⟩

def hb03 (n j : Nat) : Nat := if n ≤ 99 then n - j else (if j = 0 then 3 else if j ≤ 5 then 2 else 1)
theorem hb03_le {n j : Nat} : hb03 n j ≤ 99 := by
  unfold hb03
  repeat' split
  all_goals omega
theorem hb03_kid {ps : List Int} (hp : Par03 ps ps.length) (hm : Some03 ps.length) : ∀ i j, i ∈ kids (pnOf ps) ps.length j → hb03 ps.length i < hb03 ps.length j := fun i j hi => by
  obtain ⟨a, b, c⟩ := kids_mem hi
  have h1 := hp.par.pn i b a
  have e := getE (l := ps) a
  have hv := hp.par.val e
  rcases hm.2 with h | h
  · unfold hb03
    rw [if_pos h, if_pos h]
    omega
  · have h2 := hp.mid (by omega) i _ b e
    rw [c] at hv
    rw [hv] at h2
    unfold hb03
    (repeat' split) <;> omega
end
section
open PySem L2


theorem DocsF.okH03 {pn : Nat → Nat} {n : Nat} {f : Nat → Doc} (hb : Nat → Nat) (hk : ∀ i j, i ∈ kids pn n j → hb i < hb j) (hn : n ≤ 1000) (h : DocsF pn n 0 f) : ∀ (t j : Nat), hb j < t → j < n → (f j).ok t
  | 0, j, h1, h2 => by omega
  | t + 1, j, h1, h2 => by
    obtain ⟨x, hx, e⟩ := h j (Nat.zero_le _) h2
    rw [e]
    refine ⟨hx, ?_, ?_⟩
    · rw [List.length_map]
      exact Nat.le_trans kids_len hn
    · intro k hk'
      obtain ⟨i, hi, rfl⟩ := List.mem_map.mp hk'
      obtain ⟨a, b, c⟩ := kids_mem hi
      have := hk i j hi
      exact DocsF.okH03 hb hk hn h t i (by omega) a
theorem k_size03 : ∀ (n : Nat) (d : Doc) (h : MH), d.ok n → Sat (m_size_of_efccc n [d.toD] h) (fun r h' => r = .int (d.sz03 : Nat) ∧ h' = h) noX
  | 0, d, h, hd => hd.elim
  | n + 1, .mk x l, h, hd => by
    rw [toD_mk]
    unfold m_size_of_efccc
    walk_at "fn"
    refine w_loop0 (fun k ρ h' => h' = h ∧ ∃ o2, ρ = [some (.tup [.str x, .tup (l.map Doc.toD)]), some (.int ((1 + Doc.szs03 (l.take k) : Nat))), o2]) ⟨rfl, none, rfl⟩ (fun _ _ _ _ => rfl) ?_ ?_
    · rintro k y ρ h' hy ⟨rfl, o2, rfl⟩
      rw [List.getElem?_map, Option.map_eq_some_iff] at hy
      obtain ⟨c, ec, rfl⟩ := hy
      refine ⟨_, rfl, ?_⟩
      dsimp only [List.set]
      walk_at "go"
      refine (k_size03 n c h' (hd.2.2 c (List.mem_of_getElem? ec))).mono ?_
      rintro r h2 ⟨rfl, rfl⟩
      walk_at "go"
      refine ⟨rfl, some c.toD, ?_⟩
      rw [take_sn03 ec, szs03_app, Doc.szs03, Doc.szs03]
      congr 4
      omega
    · rintro ρ h' ⟨rfl, o2, rfl⟩
      rw [List.length_map, List.take_length]
      walk_at "go"
      refine ⟨?_, rfl⟩
      rw [Doc.sz03]
theorem k_height03 : ∀ (n : Nat) (d : Doc) (h : MH), d.ok n → Sat (m_height_of_29386 n [d.toD] h) (fun r h' => r = .int (d.ht03 : Nat) ∧ h' = h) noX
  | 0, d, h, hd => hd.elim
  | n + 1, .mk x l, h, hd => by
    rw [toD_mk]
    unfold m_height_of_29386
    walk_at "fn"
    refine w_loop0 (fun k ρ h' => h' = h ∧ ∃ o2, ρ = [some (.tup [.str x, .tup (l.map Doc.toD)]), some (.int ((Doc.hts03 (l.take k) : Nat))), o2]) ⟨rfl, none, rfl⟩ (fun _ _ _ _ => rfl) ?_ ?_
    · rintro k y ρ h' hy ⟨rfl, o2, rfl⟩
      rw [List.getElem?_map, Option.map_eq_some_iff] at hy
      obtain ⟨c, ec, rfl⟩ := hy
      refine ⟨_, rfl, ?_⟩
      dsimp only [List.set]
      walk_at "go"
      refine (k_height03 n c h' (hd.2.2 c (List.mem_of_getElem? ec))).mono ?_
      rintro r h2 ⟨rfl, rfl⟩
      walk_at "go"
      refine ⟨rfl, some c.toD, ?_⟩
      rw [take_sn03 ec, hts03_app, Doc.hts03, Doc.hts03]
      congr 4
      (repeat' split) <;> omega
    · rintro ρ h' ⟨rfl, o2, rfl⟩
      rw [List.length_map, List.take_length]
      walk_at "go"
      refine ⟨?_, rfl⟩
      rw [Doc.ht03]
      rfl
theorem szs03_mem {c : Doc} : ∀ {l : List Doc}, c ∈ l → c.sz03 ≤ Doc.szs03 l
  | d :: l, h => by
    rw [Doc.szs03]
    rcases List.mem_cons.mp h with rfl | h
    · omega
    · have := szs03_mem h; omega
theorem szs03_take (l : List Doc) (k : Nat) : Doc.szs03 (l.take k) ≤ Doc.szs03 l := by
  have := szs03_app (l.take k) (l.drop k)
  rw [List.take_append_drop] at this
  omega
theorem k_places03 : ∀ (n : Nat) (d : Doc) (h : MH), d.ok n → n ≤ 1000 → d.sz03 ≤ 1000 → (∀ x ∈ d.pl03, x.length ≤ n) → Sat (m_places_of_1d612 n [d.toD] h) (fun r h' => ∃ j, r = .ref j ∧ Own h h' [(j, d.pl03.map tupTI)]) noX
  | 0, d, h, hd, _, _, _ => hd.elim
  | n + 1, .mk x l, h, hd, hn, hs, hx => by
    rw [Doc.sz03] at hs
    have hll := hd.2.1
    rw [toD_mk]
    unfold m_places_of_1d612
    walk_at "fn"
    refine o_new (Own.nil h) (by simp) fun iL h2 o2 => ?_
    walk_at "go"
    refine w_loop0 (fun k ρ h' => ∃ o3 o4, ρ = [some (.tup [.str x, .tup (l.map Doc.toD)]), some (.ref iL), o3, o4] ∧ Own h h' [(iL, ([] :: Doc.pls03 (l.take k) 0).map tupTI)]) ⟨none, none, rfl, o2⟩ (fun _ _ _ _ => rfl) ?_ ?_
    · rintro k y ρ h' hy ⟨o3, o4, rfl, o⟩
      obtain ⟨hk, rfl⟩ := rangeD_get hy
      rw [Int.zero_add]
      have hk2 : k < l.length := by simpa using hk
      have ec : l[k]? = some l[k] := List.getElem?_eq_getElem hk2
      have hcm := List.getElem_mem hk2
      generalize l[k] = c at ec hcm
      have ac : atI (l.map Doc.toD) (k : Int) = some c.toD := atI_at (by rw [List.getElem?_map, ec]; rfl)
      have hcs := szs03_mem hcm
      have hst := szs03_take l k
      have hcx : ∀ y ∈ c.pl03, y.length ≤ n := fun y hy => by
        have := hx ((k : Int) :: y) (by rw [Doc.pl03]; exact .tail _ ((pls03_mem l 0).mpr ⟨k, c, y, ec, by simp, hy⟩))
        simp at this
        exact this
      refine ⟨_, rfl, ?_⟩
      dsimp only [List.set]
      walk_at "go"
      refine (k_places03 n c h' (hd.2.2 c hcm) (by omega) (by omega) hcx).mono ?_
      rintro r h4 ⟨j, rfl, o4'⟩
      have o5 := o.trans o4'
      walk_at "go"
      have hlen := pl03_len c
      refine w_loop0 (fun i ρ h' => ∃ o4, ρ = [some (.tup [.str x, .tup (l.map Doc.toD)]), some (.ref iL), some (.int (k : Int)), o4] ∧ Own h h' [(j, c.pl03.map tupTI), (iL, ([] :: (Doc.pls03 (l.take k) 0 ++ (c.pl03.take i).map ((k : Int) :: ·))).map tupTI)]) ⟨_, rfl, by simpa using o5⟩ ?_ ?_ ?_
      · rintro i ρ h5 ⟨o4, rfl, o⟩
        simp [o.atL 0 rfl]
      · rintro i y ρ h5 hy ⟨o4, rfl, o⟩
        rw [List.getElem?_map, Option.map_eq_some_iff] at hy
        obtain ⟨z, ez, rfl⟩ := hy
        have hz := hcx z (List.mem_of_getElem? ez)
        have hi := (List.getElem?_eq_some_iff.mp ez).1
        have hpl := pls03_len (l.take k) 0
        refine ⟨_, rfl, ?_⟩
        dsimp only [List.set, tupTI]
        walk_at "go"
        refine o_app o 1 rfl (by simp; omega) fun h6 o6 => ?_
        dsimp only [List.set] at o6
        refine ⟨_, rfl, ?_⟩
        have : ([] :: (Doc.pls03 (l.take k) 0 ++ (c.pl03.take (i + 1)).map ((k : Int) :: ·))).map tupTI = ([] :: (Doc.pls03 (l.take k) 0 ++ (c.pl03.take i).map ((k : Int) :: ·))).map tupTI ++ [.tup ([.int (k : Int)] ++ z.map .int)] := by
          rw [take_sn03 ez]
          simp [tupTI]
        rw [this]
        exact o6
      · rintro ρ h5 ⟨o4, rfl, o⟩
        refine ⟨_, _, rfl, ?_⟩
        rw [List.length_map, List.take_length] at o
        rw [pls03_take ec]
        exact o.tail
    · rintro ρ h' ⟨o3, o4, rfl, o⟩
      rw [rangeD_length, Int.toNat_natCast, List.take_length] at o
      walk_at "go"
      refine ⟨iL, rfl, ?_⟩
      rw [Doc.pl03]
      exact o
end
section
open PySem L2


theorem k_number03 {z : Int} {h : MH} : Sat (m_number_d6252 [.int z, .int z] h) (fun r h' => r = .bl true ∧ h' = h) noX := by
  walk_at "fn"
  exact ⟨by simp, rfl⟩
theorem k_alike03 {L : List (List Int)} (hl : L.length ≤ 1000) (hx : ∀ x ∈ L, x.length ≤ 1000) {h : MH} {i j : Nat} (hi : getL h i = some (L.map tupTI)) (hj : getL h j = some (L.map tupTI)) : Sat (m_alike_9d8a9 [.ref i, .ref j] h) (fun r h' => r = .bl true ∧ h' = h) noX := by
  walk_at "fn"
  refine w_eq (isi_ref _ _ _ _ hi (b := true) (by decide +kernel)) ?_
  walk_at "go"
  refine w_loop0 (fun k ρ h' => h' = h ∧ ∃ o2 o3, ρ = [some (.ref i), some (.ref j), o2, o3]) ⟨rfl, none, none, rfl⟩ (fun _ _ _ _ => rfl) ?_ ?_
  · rintro k y ρ h' hy ⟨rfl, o2, o3, rfl⟩
    obtain ⟨hk, rfl⟩ := rangeD_get hy
    rw [Int.zero_add]
    have hk2 : k < L.length := by simpa using hk
    have ec : L[k]? = some L[k] := List.getElem?_eq_getElem hk2
    have hcm := hx _ (List.getElem_mem hk2)
    generalize L[k] = c at ec hcm
    have ac : atI (L.map tupTI) (k : Int) = some (.tup (c.map .int)) := atI_at (by rw [List.getElem?_map, ec]; rfl)
    refine ⟨_, rfl, ?_⟩
    dsimp only [List.set]
    walk_at "go"
    refine w_loop0 (fun t ρ h2 => h2 = h' ∧ ∃ o3, ρ = [some (.ref i), some (.ref j), some (.int (k : Int)), o3]) ⟨rfl, _, rfl⟩ (fun _ _ _ _ => rfl) ?_ ?_
    · rintro t y ρ h2 hy ⟨rfl, o3, rfl⟩
      obtain ⟨ht, rfl⟩ := rangeD_get hy
      rw [Int.zero_add]
      have ht2 : t < c.length := by simpa using ht
      have ez : c[t]? = some c[t] := List.getElem?_eq_getElem ht2
      generalize c[t] = z at ez
      have az : atI (c.map D.int) (t : Int) = some (.int z) := atI_at (by rw [List.getElem?_map, ez]; rfl)
      refine ⟨_, rfl, ?_⟩
      dsimp only [List.set]
      walk_at "go"
      refine k_number03.mono ?_
      rintro r h3 ⟨rfl, rfl⟩
      walk_at "go"
      exact ⟨rfl, _, rfl⟩
    · rintro ρ h2 ⟨rfl, o3, rfl⟩
      exact ⟨rfl, _, _, rfl⟩
  · rintro ρ h' ⟨rfl, o2, o3, rfl⟩
    walk_at "go"
    exact ⟨rfl, rfl⟩
theorem kids_map03 {pn : Nat → Nat} {n m j : Nat} {f : Nat → Doc} (h : m < n) : (kidsF pn n m j).map f = if isKid pn j m = true then f m :: (kidsF pn n (m + 1) j).map f else (kidsF pn n (m + 1) j).map f := by
  rw [kidsF_step h]
  split <;> rfl
theorem k_counts03 {ps : List Int} (hp : Par ps) (h2 : ps.length ≤ 1000) {f : Nat → Doc} (hf : DocsF (pnOf ps) ps.length 0 f) {h : MH} {i : Nat} (hl : getL h i = some (ps.map D.int)) :
    Sat (m_counts_299ff [.ref i] h) (fun d h' => ∃ (a b : Nat), d = .tup [.ref a, .ref b] ∧ Own h h' [(b, (List.range ps.length).map fun k => .int ((f k).ht03 : Nat)), (a, (List.range ps.length).map fun k => .int ((f k).sz03 : Nat))]) noX := by
  have hpn := hp.pn
  have hpos : 0 < ps.length := (List.getElem?_eq_some_iff.mp hp.1).1
  have hsz : ∀ j, j < ps.length → (f j).sz03 = 1 + Doc.szs03 ((kids (pnOf ps) ps.length j).map f) := fun j hj => by
    obtain ⟨x, _, e⟩ := hf j (Nat.zero_le _) hj
    rw [sz03_eq, e]; rfl
  have hht : ∀ j, j < ps.length → (f j).ht03 = Doc.hts03 ((kids (pnOf ps) ps.length j).map f) + 1 := fun j hj => by
    obtain ⟨x, _, e⟩ := hf j (Nat.zero_le _) hj
    rw [ht03_eq, e]; rfl
  walk_at "fn"
  refine o_comp (fun _ y => y = .int 1) (Own.nil h) (by simp; omega) (fun h' hh => by simp [pre_getL hh hl]) ?_ ?_
  · intro k d h' hd _
    refine ⟨_, rfl, ?_⟩
    dsimp only [wipeD, List.set]
    walk_at "go"
    exact ⟨rfl, rfl⟩
  intro Ts hTl hTs iT h3 o3
  rw [List.length_map] at hTl
  walk_at "go"
  refine o_comp (fun _ y => y = .int 1) o3 (by simp; omega) (fun h' hh => by simp [pre_getL hh (o3.getL hl)]) ?_ ?_
  · intro k d h' hd _
    refine ⟨_, rfl, ?_⟩
    dsimp only [wipeD, List.set]
    walk_at "go"
    exact ⟨rfl, rfl⟩
  intro Hs hHl hHs iH h4 o4
  rw [List.length_map] at hHl
  walk_at "go"
  refine w_loop0 (fun k ρ h' => k + 1 ≤ ps.length ∧ ∃ o3 o4, ∃ (Hs Ts : List D), ρ = [some (.ref i), some (.ref iT), some (.ref iH), o3, o4] ∧ Own h h' [(iH, Hs), (iT, Ts)] ∧ Hs.length = ps.length ∧ Ts.length = ps.length ∧
    (∀ j, j < ps.length → Ts[j]? = some (.int ((1 + Doc.szs03 ((kidsF (pnOf ps) ps.length (ps.length - k) j).map f) : Nat)))) ∧ (∀ j, j < ps.length → Hs[j]? = some (.int ((Doc.hts03 ((kidsF (pnOf ps) ps.length (ps.length - k) j).map f) + 1 : Nat))))) ⟨by omega, none, none, Hs, Ts, rfl, o4, hHl, hTl, fun j hj => by
      have e := getE (l := Ts) (i := j) (by omega)
      rw [e, hTs j _ e, Nat.sub_zero, kidsF_top]
      rfl, fun j hj => by
      have e := getE (l := Hs) (i := j) (by omega)
      rw [e, hHs j _ e, Nat.sub_zero, kidsF_top]
      rfl⟩ (fun _ _ _ _ => rfl) ?_ ?_
  · rintro k d ρ h' hd ⟨hkn, o3', o4', Hs, Ts, rfl, o, hHl, hTl, hT, hH⟩
    obtain ⟨hk, rfl⟩ := revRangeD_get hd
    refine ⟨_, rfl, ?_⟩
    dsimp only [List.set]
    obtain ⟨m, hm⟩ : ∃ m, ps.length - k = m + 1 := ⟨ps.length - k - 1, by omega⟩
    have hm0 : 0 < m := by omega
    have e1 : (1 : Int) + ((((ps.length : Int) - 1).toNat : Nat) : Int) - 1 - (k : Int) = (m : Int) := by omega
    rw [e1]
    rw [hm] at hT hH
    have hm2 : ps.length - (k + 1) = m := by omega
    have hmn : m < ps.length := by omega
    have e3 := getE (l := ps) (i := m) hmn
    have a5 : atI (ps.map D.int) (m : Int) = some (.int (pnOf ps m : Int)) := atI_at (by rw [List.getElem?_map, e3]; exact congrArg some (congrArg D.int (hp.val e3)))
    have hpm := hpn m (by omega) hmn
    have hTm := hT m hmn
    have hHm := hH m hmn
    rw [kidsF_all hpn (Nat.le_refl _) hmn, ← hsz m hmn] at hTm
    rw [kidsF_all hpn (Nat.le_refl _) hmn, ← hht m hmn] at hHm
    have a6 := atI_at hTm
    have a7 := atI_at (hT (pnOf ps m) (by omega))
    have a8 := atI_at hHm
    have a9 := atI_at (hH (pnOf ps m) (by omega))
    have hik : isKid (pnOf ps) (pnOf ps m) m = true := by unfold isKid; simp; omega
    walk_at "go"
    refine o_set o 1 rfl (m := pnOf ps m) (by rw [ixN_at (by omega)]) fun h6 o6 => ?_
    dsimp only [List.set] at o6
    walk_at "go"
    refine o_set o6 0 rfl (m := pnOf ps m) (by rw [ixN_at (by omega)]) fun h7 o7 => ?_
    dsimp only [List.set] at o7
    refine ⟨by omega, _, _, _, _, rfl, o7, by simp [hHl], by simp [hTl], fun j hj => ?_, fun j hj => ?_⟩
    · rw [hm2, kids_map03 hmn]
      by_cases e : j = pnOf ps m
      · subst e
        rw [List.getElem?_set_self (by omega), if_pos hik, Doc.szs03]
        congr 2
        omega
      · rw [List.getElem?_set_ne (Ne.symm e), hT j hj, if_neg (by unfold isKid; simp; omega)]
    · rw [hm2, kids_map03 hmn]
      by_cases e : j = pnOf ps m
      · subst e
        rw [List.getElem?_set_self (by omega), if_pos hik, Doc.hts03]
        congr 2
        (repeat' split) <;> omega
      · rw [List.getElem?_set_ne (Ne.symm e), hH j hj, if_neg (by unfold isKid; simp; omega)]
  · rintro ρ h' ⟨hkn, o3', o4', Hs, Ts, rfl, o, hHl, hTl, hT, hH⟩
    rw [revRangeD_length] at hT hH
    have e : ps.length - ((ps.length : Int) - 1).toNat = 1 := by omega
    rw [e] at hT hH
    walk_at "go"
    refine ⟨iT, iH, rfl, ?_⟩
    have eT : Ts = (List.range ps.length).map fun k => D.int ((f k).sz03 : Nat) := by
      refine List.ext_getElem? fun j => ?_
      rcases Nat.lt_or_ge j ps.length with z | z
      · rw [hT j z, List.getElem?_map, List.getElem?_range z, kidsF_all hpn (by omega) z, ← hsz j z]; rfl
      · rw [List.getElem?_eq_none (by omega), List.getElem?_eq_none (by simpa using z)]
    have eH : Hs = (List.range ps.length).map fun k => D.int ((f k).ht03 : Nat) := by
      refine List.ext_getElem? fun j => ?_
      rcases Nat.lt_or_ge j ps.length with z | z
      · rw [hH j z, List.getElem?_map, List.getElem?_range z, kidsF_all hpn (by omega) z, ← hht j z]; rfl
      · rw [List.getElem?_eq_none (by omega), List.getElem?_eq_none (by simpa using z)]
    rw [← eT, ← eH]
    exact o
end
end
end Mi
namespace Mi
open PySem L2
theorem cut_take03 {l : List D} {n : Nat} : cutD l none (some (n : Int)) = l.take n := by
  unfold cutD
  rw [HT.sIx_none, HT.sIx_nat, List.drop_zero, Nat.sub_zero]
  rcases Nat.le_total n l.length with h | h
  · rw [Nat.min_eq_left h]
  · rw [Nat.min_eq_right h, List.take_length, List.take_of_length_le h]
theorem cut_drop03 {l : List D} {n : Nat} : cutD l (some (n : Int)) none = l.drop n := by
  unfold cutD
  rw [HT.sIx_none, HT.sIx_nat]
  rcases Nat.le_total n l.length with h | h
  · rw [Nat.min_eq_left h]
    exact List.take_of_length_le (by rw [List.length_drop]; omega)
  · rw [Nat.min_eq_right h, Nat.sub_self, List.take_zero, List.drop_of_length_le h]
theorem at_len03 : ∀ {n : Nat} {d c : Doc} {x : List Int}, d.ok n → d.at x = some c → x.length < n
  | 0, d, c, x, h, _ => h.elim
  | n + 1, d, c, [], h, _ => by simp
  | n + 1, .mk y l, c, z :: r, h, e => by
    rw [Doc.at] at e
    split at e
    · split at e
      · rename_i c' e'
        have e' : l[z.toNat]? = some c' := e'
        have := at_len03 (h.2.2 c' (List.mem_of_getElem? e')) e
        rw [List.length_cons]
        omega
      · cases e
    · cases e
theorem pl_len03 {n : Nat} {d : Doc} (h : d.ok n) : ∀ x ∈ d.pl03, x.length ≤ n := fun x hx => by
  obtain ⟨c, e⟩ := pl03_mem.mp hx
  exact Nat.le_of_lt (at_len03 h e)
theorem o_sortTI03 {h0 h : MH} {L : LL} {Q : D → MH → Prop} {E : XE} {i : Nat} {R l : List (List Int)} (hR : R = [] :: l) (o : Own h0 h L) (e : getL h i = some (R.map tupTI)) (q : ∀ i h', Own h0 h' ((i, (sortTI R).map tupTI) :: L) → Q (.ref i) h') : Sat (dSortTI [.ref i] h) Q E := by
  subst hR
  exact w_sortTI e (q _ _ (o.alloc _))
local macro_rules | `(tactic| walk_at "gl") => `(tactic| first
  | assumption
  | (refine Own.atL (h0 := ?_) (L := ?_) ?_ 0 ?_; rotate_left; rotate_left; assumption; rfl)
  | (refine Own.atL (h0 := ?_) (L := ?_) ?_ 1 ?_; rotate_left; rotate_left; assumption; rfl)
  | (refine Own.atL (h0 := ?_) (L := ?_) ?_ 2 ?_; rotate_left; rotate_left; assumption; rfl)
  | (refine Own.atL (h0 := ?_) (L := ?_) ?_ 3 ?_; rotate_left; rotate_left; assumption; rfl)
  | (refine Own.atL (h0 := ?_) (L := ?_) ?_ 4 ?_; rotate_left; rotate_left; assumption; rfl)
  | (refine Own.atL (h0 := ?_) (L := ?_) ?_ 5 ?_; rotate_left; rotate_left; assumption; rfl)
  | (refine Own.atL (h0 := ?_) (L := ?_) ?_ 6 ?_; rotate_left; rotate_left; assumption; rfl)
  | (refine Own.atL (h0 := ?_) (L := ?_) ?_ 7 ?_; rotate_left; rotate_left; assumption; rfl)
  | (refine Own.atL (h0 := ?_) (L := ?_) ?_ 8 ?_; rotate_left; rotate_left; assumption; rfl)
  | (refine Own.atL (h0 := ?_) (L := ?_) ?_ 9 ?_; rotate_left; rotate_left; assumption; rfl)
  | (refine Own.getL (h0 := ?_) (L := ?_) ?_ ?_; rotate_left; rotate_left; assumption; assumption))
local macro_rules | `(tactic| walk_at "il") => `(tactic| first
  | (refine Own.isL (h0 := ?_) (L := ?_) (l := ?_) ?_ 0 ?_; rotate_left; rotate_left; rotate_left; assumption; rfl)
  | (refine Own.isL (h0 := ?_) (L := ?_) (l := ?_) ?_ 1 ?_; rotate_left; rotate_left; rotate_left; assumption; rfl)
  | (refine Own.isL (h0 := ?_) (L := ?_) (l := ?_) ?_ 2 ?_; rotate_left; rotate_left; rotate_left; assumption; rfl)
  | (refine Own.isL (h0 := ?_) (L := ?_) (l := ?_) ?_ 3 ?_; rotate_left; rotate_left; rotate_left; assumption; rfl)
  | (refine Own.isL (h0 := ?_) (L := ?_) (l := ?_) ?_ 4 ?_; rotate_left; rotate_left; rotate_left; assumption; rfl)
  | (refine Own.isL (h0 := ?_) (L := ?_) (l := ?_) ?_ 5 ?_; rotate_left; rotate_left; rotate_left; assumption; rfl)
  | (refine Own.isL (h0 := ?_) (L := ?_) (l := ?_) ?_ 6 ?_; rotate_left; rotate_left; rotate_left; assumption; rfl)
  | (refine Own.isL (h0 := ?_) (L := ?_) (l := ?_) ?_ 7 ?_; rotate_left; rotate_left; rotate_left; assumption; rfl)
  | (refine Own.isL (h0 := ?_) (L := ?_) (l := ?_) ?_ 8 ?_; rotate_left; rotate_left; rotate_left; assumption; rfl)
  | (refine Own.isL (h0 := ?_) (L := ?_) (l := ?_) ?_ 9 ?_; rotate_left; rotate_left; rotate_left; assumption; rfl))
local macro_rules | `(tactic| walk_at "bd") => `(tactic| first | assumption | omega | (simp; done) | (simp; omega) | (simp [*]; done) | (simp [*]; omega))
local macro_rules | `(tactic| walk_at "w") => `(tactic| first
  | ((with_reducible refine w_xfK ?_ ?_ ?_); (exact List.mem_cons_self); (decide))
  | with_reducible refine w_eq (isN_xo _) ?_
  | with_reducible refine w_eq (dNeg_int _ _) ?_)
local macro_rules | `(tactic| walk_at "w") => `(tactic| first
  | ((with_reducible refine w_addT ?_ ?_); walk_at "bd")
  | ((with_reducible refine ⟨?_, ?_⟩); (with_reducible (show isListD (.ref _) _ = true)); walk_at "il")
  | with_reducible refine w_tryK ?_
  | with_reducible refine w_raise ?_
  | with_reducible refine w_raise0 ?_
  | with_reducible refine w_isX ?_
  | ((with_reducible refine w_isXK (k := ?_) ?_ ?_); rotate_left; (first | with_reducible exact lkA | (apply lkB; decide +kernel; exact lkA) | (apply lkB; decide +kernel; apply lkB; decide +kernel; exact lkA) | (apply lkB; decide +kernel; apply lkB; decide +kernel; apply lkB; decide +kernel; exact lkA)))
  | with_reducible refine w_xf ?_)
local macro_rules | `(tactic| walk_at "w") => `(tactic| first
  | with_reducible refine w_eq (isi_bool_int _ _) ?_
  | with_reducible refine w_eq (isi_str_int _ _) ?_
  | ((with_reducible refine w_lenLm (α := ?_) (f := ?_) (l := ?_) ?_ ?_); rotate_left; rotate_left; rotate_left; walk_at "gl")
  | ((with_reducible refine w_lenL (l := ?_) ?_ ?_); rotate_left; walk_at "gl")
  | ((with_reducible refine w_iterL (l := ?_) ?_ ?_); rotate_left; walk_at "gl"; dsimp only)
  | ((with_reducible refine w_tupL (l := ?_) ?_ ?_); rotate_left; walk_at "gl")
  | ((with_reducible refine w_ixT (d := ?_) ?_ ?_); rotate_left; (first | with_reducible assumption | rfl))
  | ((with_reducible refine w_ixL (l := ?_) (d := ?_) ?_ ?_ ?_); rotate_left; rotate_left; walk_at "gl"; (first | with_reducible assumption | rfl)))
local macro_rules | `(tactic| walk_at "w") => `(tactic| first
  | with_reducible refine w_chK ?_
  | with_reducible refine w_retN ?_
  | with_reducible refine w_brk ?_
  | with_reducible refine w_cont ?_
  | with_reducible refine w_asgT ?_
  | with_reducible refine w_eq (isi_str_str _ _) ?_
  | with_reducible refine w_eq (isi_int_int _ _) ?_
  | with_reducible refine w_eq (isi_tup_tup _ _) ?_)
local macro_rules | `(tactic| walk_at "w") => `(tactic| first
  | with_reducible refine w_revL ?_
  | with_reducible refine w_listRg1 ?_
  | with_reducible refine w_tindex ?_
  | with_reducible refine w_setIx ?_
  | with_reducible refine w_un ?_
  | with_reducible refine w_rev1 ?_
  | with_reducible refine w_rev2 ?_
  | with_reducible refine w_chain ?_)
local macro_rules | `(tactic| walk_at "w") => `(tactic| first
  | with_reducible refine w_zip ?_
  | with_reducible refine w_ifE ?_
  | with_reducible refine w_andV ?_
  | with_reducible refine w_orV ?_
  | with_reducible refine w_notV ?_
  | with_reducible refine w_andK ?_
  | with_reducible refine w_orK ?_
  | with_reducible refine w_notK ?_)
local macro_rules | `(tactic| walk_at "w") => `(tactic| first
  | with_reducible refine w_eq (iter1_tup _ _) ?_
  | with_reducible refine w_eq (iter1_str _ _) ?_
  | with_reducible refine w_sl ?_
  | with_reducible refine w_no ?_
  | with_reducible refine w_some ?_
  | with_reducible refine w_unI ?_
  | with_reducible refine w_meth ?_
  | with_reducible refine w_isi ?_)
local macro_rules | `(tactic| walk_at "w") => `(tactic| first
  | with_reducible refine w_lst ?_
  | with_reducible refine w_lc ?_
  | with_reducible refine w_for ?_
  | with_reducible refine w_range1 ?_
  | with_reducible refine w_range2 ?_
  | ((with_reducible refine w_dR1 ?_ ?_); (first | decide | omega))
  | ((with_reducible refine w_dR2 ?_ ?_); (first | decide | omega))
  | with_reducible refine w_iter ?_)
local macro_rules | `(tactic| walk_at "w") => `(tactic| first
  | with_reducible refine w_or ?_
  | with_reducible refine br_n ?_
  | with_reducible refine br_tt ?_
  | with_reducible refine br_ff ?_
  | ((with_reducible refine br_dt ?_ ?_); (first | assumption | omega | rfl))
  | ((with_reducible refine br_df ?_ ?_); (first | assumption | omega))
  | with_reducible refine w_tup ?_
  | ((with_reducible refine w_toTup ?_ ?_); exact (by simp)))
local macro_rules | `(tactic| walk_at "w") => `(tactic| first
  | with_reducible refine w_lenTm ?_
  | with_reducible refine w_eq (dLen_tup _ _) ?_
  | with_reducible refine w_eq (dSl_tup _ _ _ _) ?_
  | with_reducible refine w_eq (dMax_ev _ _ _) ?_
  | with_reducible refine w_eq (dMin_ev _ _ _) ?_
  | with_reducible refine w_eq (dAbs_ev _ _) ?_
  | with_reducible refine w_not ?_
  | with_reducible refine w_and ?_)
local macro_rules | `(tactic| walk_at "w") => `(tactic| first
  | with_reducible refine w_eq (dGe_int _ _ _) ?_
  | with_reducible refine w_eq (dNe_int _ _ _) ?_
  | ((with_reducible refine w_mod ?_ ?_); (first | assumption | decide | omega))
  | ((with_reducible refine w_fdiv ?_ ?_); (first | assumption | decide | omega))
  | ((with_reducible refine w_mulS ?_ ?_); (first | decide | omega))
  | ((with_reducible refine w_addS ?_ ?_); (first | assumption | decide | omega))
  | ((with_reducible refine w_lenS ?_ ?_); (first | assumption | decide | omega))
  | ((with_reducible refine w_slS ?_ ?_); (first | assumption | decide | omega)))
local macro_rules | `(tactic| walk_at "w") => `(tactic| first
  | with_reducible refine w_eq (dEq_int _ _ _) ?_
  | with_reducible refine w_eq (dEq_str _ _ _) ?_
  | with_reducible refine w_eq (dNe_strs _ _ _) ?_
  | with_reducible refine w_eq (dEq_bls _ _ _) ?_
  | with_reducible refine w_eq (dNe_bls _ _ _) ?_
  | with_reducible refine w_eq (dLt_int _ _ _) ?_
  | with_reducible refine w_eq (dLe_int _ _ _) ?_
  | with_reducible refine w_eq (dGt_int _ _ _) ?_)
local macro_rules | `(tactic| walk_at "w") => `(tactic| first
  | with_reducible refine w_if ?_
  | with_reducible refine w_B ?_
  | with_reducible refine w_unB ?_
  | with_reducible refine w_ret ?_
  | with_reducible refine w_drop ?_
  | with_reducible refine w_skip ?_
  | with_reducible refine w_eq (dAdd_int _ _ _) ?_
  | with_reducible refine w_eq (dSub_int _ _ _) ?_)
local macro_rules | `(tactic| walk_at "w") => `(tactic| first
  | with_reducible refine w_seq ?_
  | with_reducible refine w_asg ?_
  | with_reducible refine w_cons ?_
  | with_reducible refine w_nil ?_
  | with_reducible refine w_c ?_
  | ((with_reducible refine w_var (d := ?_) ?_ ?_); rotate_left; rfl)
  | with_reducible refine w_bin ?_
  | with_reducible refine w_call ?_)
local macro_rules | `(tactic| walk_at "go") => `(tactic| (repeat (walk_at "w")); try dsimp only [List.set])
local macro_rules | `(tactic| walk_at "fn") => `(tactic| ((refine w_fun ?_); simp only [startD, List.map_cons, List.map_nil, List.reduceReplicate, Nat.reduceSub, List.cons_append, List.nil_append]; walk_at "go"))
local macro_rules | `(tactic| walk_at "lk") => `(tactic| first | with_reducible exact lkA | (apply lkB; decide +kernel; walk_at "lk"))
local macro_rules | `(tactic| walk_at "mk") => `(tactic| first | with_reducible exact mkA | (apply mkB; decide +kernel; walk_at "mk"))
local macro_rules | `(tactic| walk_at "fk") => `(tactic| first | with_reducible exact fkA | exact fkN | (apply fkB; decide +kernel; walk_at "fk"))
local macro_rules | `(tactic| walk_at "cs") => `(tactic| first | exact List.mem_cons_self | (apply List.mem_cons_of_mem; walk_at "cs"))
local macro_rules | `(tactic| walk_at "w") => `(tactic| first
  | with_reducible refine w_fld ?_
  | ((with_reducible refine w_fldK (c := ?_) (fs := ?_) (v := ?_) ?_ ?_ ?_ ?_); rotate_left; rotate_left; rotate_left; (with_reducible assumption); (walk_at "cs"); (walk_at "fk"))
  | with_reducible refine w_setFld ?_
  | with_reducible refine w_new ?_
  | with_reducible refine w_methI ?_
  | ((with_reducible refine w_methK (c := ?_) (fs := ?_) (F := ?_) ?_ ?_ ?_ ?_); rotate_left; rotate_left; rotate_left; (with_reducible assumption); (walk_at "mk"); (walk_at "fk"))
  | with_reducible refine w_isC ?_
  | ((with_reducible refine w_isCK (c := ?_) (fs := ?_) (k := ?_) ?_ ?_ ?_); rotate_left; rotate_left; rotate_left; (with_reducible assumption); (walk_at "lk"))
  | with_reducible refine w_callD ?_
  | with_reducible refine w_mDSet ?_
  | with_reducible refine w_eq (nN_non _) ?_
  | with_reducible refine w_eq (nN_int _ _) ?_
  | with_reducible refine w_eq (nN_tup _ _) ?_
  | with_reducible refine w_eq (nN_ref _ _) ?_
  | with_reducible refine w_eq (iN_non _) ?_
  | with_reducible refine w_eq (iN_int _ _) ?_
  | with_reducible refine w_eq (iN_tup _ _) ?_
  | with_reducible refine w_eq (iN_ref _ _) ?_)
theorem o_compA03 {α : Type} {h0 h : MH} {L : LL} {Q : D → MH → Prop} {E : XE} {gd : MH → Bool} {tg : MG} {tt : MT} {te : ME} {ρ : Slots} (as : List α) (g : α → D) (bf : α → Bool) (vf : α → D) (o : Own h0 h L) (hl : as.length ≤ 1000000)
    (hg : ∀ h', h <+: h' → gd h' = true)
    (hs : ∀ a h', h <+: h' → ∃ ρ1, tg (g a) ρ = some ρ1 ∧ Sat (tt ρ1 h') (fun b h2 => h2 = h' ∧ b = bf a) noX ∧ Sat (te ρ1 h') (fun y h2 => h2 = h' ∧ y = vf a) noX)
    (hn : ∀ i h', Own h0 h' ((i, (as.filter bf).map vf) :: L) → Q (.ref i) h') : Sat (lcGo gd tg tt te h.length ρ (as.map g) (h ++ [.lst []])) Q E := by
  refine w_comp (fun k acc h' => acc = ((as.take k).filter bf).map vf ∧ h' = h ++ [.lst acc]) (k := 0) ⟨by simp, rfl⟩ (by simp) (by simpa using hl) (fun i acc h' hi => by rw [hi.2]; exact hg _ (List.prefix_append _ _)) ?_ ?_
  · rintro i d acc h' hd ⟨ha, rfl⟩ hc
    rw [Nat.zero_add] at ha ⊢
    rw [List.getElem?_map, Option.map_eq_some_iff] at hd
    obtain ⟨a, hd, rfl⟩ := hd
    obtain ⟨ρ1, e1, s2, e3⟩ := hs a (h ++ [.lst acc]) (List.prefix_append _ _)
    obtain ⟨b, h2, e2, rfl, rfl⟩ := s2.get
    refine ⟨ρ1, e1, bf a, _, e2, fun z => ⟨hc, ?_, rfl⟩, fun z => e3.mono ?_⟩
    · rw [take_sn03 hd, List.filter_append, List.map_append, ← ha]
      simp [z]
    · rintro y h2 ⟨rfl, rfl⟩
      refine ⟨hc, ?_, by simp⟩
      rw [take_sn03 hd, List.filter_append, List.map_append, ← ha]
      simp [z]
  · rintro acc h' ⟨ha, rfl⟩ hc
    rw [Nat.zero_add, List.length_map, List.take_length] at ha
    rw [ha]
    exact hn _ _ (o.alloc _)
theorem main_k03 : ∀ ns : List Int, ns.length ≤ 63 → (∀ z ∈ ns, Builtin.Int.intBits z ≤ 1048576) → ∃ h', m_law_2fde9 [.ref 0] [.rol (ns.map D.int)] = .ok (.bl true) h' := by
  intro ns hn hb
  suffices hh : Sat (m_law_2fde9 [.ref 0] [.rol (ns.map D.int)]) (fun d h' => d = .bl true) noX by
    obtain ⟨d, h', e, rfl⟩ := hh.get
    exact ⟨h', e⟩
  have hb' : ∀ z ∈ ns, Cell z := hb
  generalize hh0 : [MO.rol (ns.map D.int)] = h0
  have g0 : getL h0 0 = some (ns.map D.int) := by rw [← hh0]; rfl
  clear hh0
  walk_at "fn"
  refine (cc_cells03 hb' hn g0).mono ?_
  rintro d h1 ⟨iC, cs, rfl, o1, hcs, hc1⟩
  have hc1000 : 1 ≤ cs.length ∧ cs.length ≤ 1000 := by unfold Some03 at hc1; omega
  walk_at "go"
  refine (cc_parents03 hcs hc1000.1 hc1000.2 (o1.atL 0 rfl)).mono ?_
  rintro d h2 ⟨iP, ps, rfl, o2', hps8, hpl⟩
  have hps := hps8.par
  rw [← hpl] at hps8 hc1
  have o2 := o1.trans o2'
  walk_at "go"
  refine (cc_docs hcs (by omega) hps hpl (o2.atL 1 rfl) (o2.atL 0 rfl)).mono ?_
  rintro d h3 ⟨iD, f, rfl, o3', hf⟩
  have o3 := o2.trans o3'
  walk_at "go"
  refine (cc_places hps (by omega) (o3.atL 1 rfl)).mono ?_
  rintro d h4 ⟨iQ, q, rfl, o4', hq⟩
  have o4 := o3.trans o4'
  have hpn := hps.pn
  have hn0 : 0 < ps.length := by omega
  have hst := fun k hk => stands hpn hf hq k k (Nat.le_refl k) hk
  have hok : ∀ j, j < ps.length → (f j).ok 100 := fun j hj => DocsF.okH03 (hb03 ps.length) (hb03_kid hps8 hc1) (by omega) hf 100 j (by have := hb03_le (n := ps.length) (j := j); omega) hj
  have hsz : ∀ j, j < ps.length → (f j).sz03 ≤ 1000 := fun j hj => by
    have := sz_le03 hpn hf hq hj
    omega
  have hsort := places03 hpn hn0 hf hq
  obtain ⟨rest, hrest⟩ : ∃ rest, (List.range ps.length).map q = [] :: rest := by
    obtain ⟨m, hm⟩ : ∃ m, ps.length = m + 1 := ⟨ps.length - 1, by omega⟩
    rw [hm, List.range_succ_eq_map, List.map_cons, hq.1]
    exact ⟨_, rfl⟩
  have hQ : ((List.range ps.length).map fun k => D.tup ((q k).map .int)) = ([] :: rest).map tupTI := by
    rw [← hrest, List.map_map]
    rfl
  have hrl : rest.length + 1 = ps.length := by
    have := congrArg List.length hrest
    simpa using this.symm
  obtain ⟨R, hR⟩ : ∃ R, R = [] :: rest := ⟨_, rfl⟩
  rw [← hR] at hrest hQ
  rw [hrest] at hsort
  rw [hQ] at o4
  have aQ : ∀ k : Nat, k < ps.length → atI (R.map tupTI) (k : Int) = some (.tup ((q k).map .int)) := fun k hk => atI_at (by rw [← hrest, List.getElem?_map, List.getElem?_map, List.getElem?_range hk]; rfl)
  have hRl : R.length = ps.length := by rw [hR, List.length_cons, hrl]
  clear hQ hrest hrl
  have aD : ∀ k : Nat, k < ps.length → atI ((List.range ps.length).map fun k => (f k).toD) (k : Int) = some (f k).toD := fun k hk => atI_at (by rw [List.getElem?_map, List.getElem?_range hk]; rfl)
  have aD0 : atI ((List.range ps.length).map fun k => (f k).toD) 0 = some (f 0).toD := aD 0 hn0
  have hpls : ∀ j, j < ps.length → (f j).pl03.length ≤ 1000 ∧ ∀ x ∈ (f j).pl03, x.length ≤ 100 := fun j hj => ⟨by rw [pl03_len]; exact hsz j hj, pl_len03 (hok j hj)⟩
  walk_at "go"
  refine (k_counts03 hps (by omega) hf (o4.atL 2 rfl)).mono ?_
  rintro d h5 ⟨iT, iH, rfl, o5'⟩
  have o5 := o4.trans o5'
  clear o1 o2 o3 o4 o2' o3' o4' o5'
  walk_at "go"
  refine ⟨_, rfl, ?_⟩
  dsimp only [List.set]
  walk_at "go"
  refine (k_places03 100 (f 0) h5 (hok 0 hn0) (by omega) (hsz 0 hn0) (hpls 0 hn0).2).mono ?_
  rintro d h6 ⟨iL, rfl, o6'⟩
  have o6 := o5.trans o6'
  walk_at "go"
  refine o_sortTI03 hR o6 (o6.atL 3 rfl) fun iS h7 o7 => ?_
  rw [hsort] at o7
  walk_at "go"
  refine (k_alike03 (hpls 0 hn0).1 (fun x hx => Nat.le_trans ((hpls 0 hn0).2 x hx) (by omega)) (o7.atL 1 rfl) (o7.atL 0 rfl)).mono ?_
  rintro r h8 ⟨rfl, rfl⟩
  walk_at "go"
  have o8 := o7.tail
  clear o7 o6 o6' o5
  simp only [List.cons_append, List.nil_append] at o8
  refine o_app o8 0 rfl (by have := (hpls 0 hn0).1; simp; omega) fun h9 o9 => ?_
  dsimp only [List.set] at o9
  clear o8
  walk_at "go"
  refine o_set o9 0 rfl (m := 0) (show ixN _ ((0 : Nat) : Int) = some 0 from ixN_at (by simp)) fun h10 o10 => ?_
  dsimp only [List.set] at o10
  clear o9
  generalize (((f 0).pl03.map tupTI ++ [D.tup [D.int 0]]).set 0 _) = told at o10
  walk_at "go"
  simp only [List.length_range]
  refine w_dR1 (by omega) ?_
  rw [Int.toNat_natCast]
  refine w_loop0 (fun k ρ h' => h' = h10 ∧ ∃ o6, ρ = [some (.ref 0), some (.ref iC), some (.ref iP), some (.ref iD), some (.ref iQ), some (.ref iL), o6, none, some (.ref iT), some (.ref iH), none]) ⟨rfl, none, rfl⟩ (fun _ _ _ _ => rfl) ?_ ?_
  · rintro k y ρ h' hy ⟨rfl, o6, rfl⟩
    obtain ⟨hk, rfl⟩ := rangeD_get hy
    rw [Int.zero_add]
    have a1 := aD k hk
    have a2 : atI ((List.range ps.length).map fun k => D.int ((f k).sz03 : Nat)) (k : Int) = some (.int ((f k).sz03 : Nat)) := atI_at (by rw [List.getElem?_map, List.getElem?_range hk]; rfl)
    have a3 : atI ((List.range ps.length).map fun k => D.int ((f k).ht03 : Nat)) (k : Int) = some (.int ((f k).ht03 : Nat)) := atI_at (by rw [List.getElem?_map, List.getElem?_range hk]; rfl)
    refine ⟨_, rfl, ?_⟩
    dsimp only [List.set]
    walk_at "go"
    refine (k_size03 100 (f k) _ (hok k hk)).mono ?_
    rintro r h2 ⟨rfl, rfl⟩
    walk_at "go"
    refine k_number03.mono ?_
    rintro r h2 ⟨rfl, rfl⟩
    walk_at "go"
    refine (k_height03 100 (f k) _ (hok k hk)).mono ?_
    rintro r h2 ⟨rfl, rfl⟩
    walk_at "go"
    refine k_number03.mono ?_
    rintro r h2 ⟨rfl, rfl⟩
    walk_at "go"
    exact ⟨rfl, _, rfl⟩
  · rintro ρ h' ⟨rfl, o6, rfl⟩
    walk_at "go"
    refine (cc_at hb' (o10.getL g0) (by decide)).mono ?_
    rintro d h11 ⟨rfl, c0, rfl, hc0⟩
    walk_at "go"
    simp only [List.length_range]
    walk_at "go"
    obtain ⟨k, hk, ek⟩ : ∃ k : Nat, k < ps.length ∧ c0 % (ps.length : Int) = (k : Int) := by
      have := mod_in c0 (n := (ps.length : Int)) (by omega)
      exact ⟨(c0 % (ps.length : Int)).toNat, by omega, by omega⟩
    rw [ek]
    have a4 := aQ k hk
    have a5 := aD k hk
    have hbel := below03 (hst k hk)
    refine o_sortTI03 hR o10 (o10.atL 3 rfl) fun iS h12 o12 => ?_
    rw [hsort] at o12
    walk_at "go"
    refine o_compA03 (f 0).pl03 tupTI (fun x => decide (x.take (q k).length = q k)) (fun x => tupTI (x.drop (q k).length)) o12 (by have := (hpls 0 hn0).1; omega) (fun h' hp => by simp [pre_getL hp (o12.atL 0 rfl)]) (fun x h' hp => ⟨_, rfl, ?_, ?_⟩) fun iB h13 o13 => ?_
    · have g4 := pre_getL hp (o12.atL 4 rfl)
      dsimp only [wipeD, List.set, tupTI]
      walk_at "go"
      rw [cut_take03, ← List.map_take]
      refine w_eqK (eqT_int _ _) ?_
      walk_at "go"
      exact ⟨rfl, rfl⟩
    · have g4 := pre_getL hp (o12.atL 4 rfl)
      dsimp only [wipeD, List.set, tupTI]
      walk_at "go"
      rw [cut_drop03, ← List.map_drop]
      exact ⟨rfl, rfl⟩
    walk_at "go"
    have eB : ((f 0).pl03.filter fun x => decide (x.take (q k).length = q k)).map (fun x => tupTI (x.drop (q k).length)) = (f k).pl03.map tupTI := by
      rw [← hbel, List.map_map]
      rfl
    rw [eB] at o13
    clear o12 o10
    refine (k_places03 100 (f k) h13 (hok k hk) (by omega) (hsz k hk) (hpls k hk).2).mono ?_
    rintro d h14 ⟨iL2, rfl, o14'⟩
    have o14 := o13.trans o14'
    walk_at "go"
    refine (k_alike03 (hpls k hk).1 (fun x hx => Nat.le_trans ((hpls k hk).2 x hx) (by omega)) (o14.atL 0 rfl) (o14.atL 1 rfl)).mono ?_
    rintro r h15 ⟨rfl, rfl⟩
    walk_at "go"
    refine (k_places03 100 (f 0) _ (hok 0 hn0) (by omega) (hsz 0 hn0) (hpls 0 hn0).2).mono ?_
    rintro d h16 ⟨iL3, rfl, o16'⟩
    have o16 := o14.trans o16'
    walk_at "go"
    refine o_sortTI03 hR o16 (o16.atL 7 rfl) fun iS2 h17 o17 => ?_
    rw [hsort] at o17
    walk_at "go"
    refine (k_alike03 (hpls 0 hn0).1 (fun x hx => Nat.le_trans ((hpls 0 hn0).2 x hx) (by omega)) (o17.atL 1 rfl) (o17.atL 0 rfl)).mono ?_
    rintro r h18 ⟨rfl, rfl⟩
    rfl
end Mi

namespace Sk03
open PySem L2 Mi
def top (i : Nat) : Stmt := PySem.Challenge.pw_graftform_k03_places_counted.main.body.getD i (.Pass ⟨0, 0, 0, 0⟩)
/-- what the top leaves: names of built-ins that are not bound, constants -/
structure Txt (K : PySem.W.Frag) (mg : Str → Option Value) : Prop where
  b_abs : mg "abs" = none
  b_bool : mg "bool" = none
  b_int : mg "int" = none
  b_isinstance : mg "isinstance" = none
  b_len : mg "len" = none
  b_list : mg "list" = none
  b_max : mg "max" = none
  b_min : mg "min" = none
  b_range : mg "range" = none
  b_reversed : mg "reversed" = none
  b_sorted : mg "sorted" = none
  b_tuple : mg "tuple" = none
section
variable {P : Program} {w : World} {K : PySem.W.Frag} {mg : Str → Option Value} {base : Heap}
theorem sc__law_cell_at : FnScope ["_law_script", "_law_k", "_law_cell"] ["_law_script", "_law_k"] (defScope (top 5)) := ⟨rfl, rfl, rfl, by decide +kernel, rfl, by decide +kernel, by decide +kernel⟩
theorem sim__law_cell_at (T : Txt K mg) (d : Df K mg "_law_cell_at" (top 5) ["_law_script", "_law_k"]) : Cal P w K mg base "_law_cell_at" 1 (m_cell_at_5ae90) := by
  exact cal_mk (k := 0) d sc__law_cell_at fun f cdv A outer s H E hr => by
   have tk : Takes (cxOf (L2.CX P w) P w K mg base ["_law_script", "_law_k", "_law_cell"] "_law_cell_at" (defScope (top 5)) f cdv A outer s H E) (fun c d _ H' => E c d H') := takes_of rfl rfl rfl rfl
   have hu : (A.deeper (PyProof.Rows.envOfC "_law_cell_at" (defScope (top 5)) s.heap.objs.size f cdv)).units + 65 < cLine := by have := hr.un; omega
   have hu2 : (A.deeper (PyProof.Rows.envOfC "_law_cell_at" (defScope (top 5)) s.heap.objs.size f cdv)).units + 0 + 200 < cLine := by have := hr.un; omega
   have S := sc__law_cell_at
   exact ss_cons (sx_set (i := 2) (se_int) S.nd)
      (ss_cons (sx_if (st_cmp op_lt s2_lt (mv 1) (se_callB call_len sn_len (by rfl) T.b_len (by decide +kernel) (sa_cons (mv 0) (sa_nil))) (nomark _))
      (ss_one (sx_set (i := 2) (se_callB call_abs sn_abs (by rfl) T.b_abs (by decide +kernel) (sa_cons (se_ix ix_seq s2_ix (mv 0) (mv 1) (fun _ _ => rfl)) (sa_nil))) S.nd))
      (ss_nil))
      (ss_cons (sx_if (st_cmp op_lt s2_lt (mv 2) (se_bin op_pow s2_pow (se_int) (se_int)) (nomark _))
      (ss_one (sx_ret (se_bin op_mod s2_mod (mv 2) (se_int))))
      (ss_nil))
      (ss_one (sx_ret (mv 2)))))
theorem sc__law_cells : FnScope ["_law_script", "_law_start", "_law_most", "_law_first", "_law_number_here", "_law_found", "_law_many", "_law_k"] ["_law_script", "_law_start", "_law_most"] (defScope (top 6)) := ⟨rfl, rfl, rfl, by decide +kernel, rfl, by decide +kernel, by decide +kernel⟩
theorem sim__law_cells (T : Txt K mg) (d : Df K mg "_law_cells" (top 6) ["_law_script", "_law_start", "_law_most"]) (c__law_cell_at : Cal P w K mg base "_law_cell_at" 1 (m_cell_at_5ae90)) : Cal P w K mg base "_law_cells" 2 (m_cells_33ed8) := by
  exact cal_mk (k := 1) d sc__law_cells fun f cdv A outer s H E hr => by
   have tk : Takes (cxOf (L2.CX P w) P w K mg base ["_law_script", "_law_start", "_law_most", "_law_first", "_law_number_here", "_law_found", "_law_many", "_law_k"] "_law_cells" (defScope (top 6)) f cdv A outer s H E) (fun c d _ H' => E c d H') := takes_of rfl rfl rfl rfl
   have hu : (A.deeper (PyProof.Rows.envOfC "_law_cells" (defScope (top 6)) s.heap.objs.size f cdv)).units + 65 < cLine := by have := hr.un; omega
   have hu2 : (A.deeper (PyProof.Rows.envOfC "_law_cells" (defScope (top 6)) s.heap.objs.size f cdv)).units + 0 + 200 < cLine := by have := hr.un; omega
   have S := sc__law_cells
   exact ss_cons (sx_set (i := 3) (se_callC c__law_cell_at (hr.mono (by omega)) tk (sa_cons (mv 0) (sa_cons (mv 1) (sa_nil)))) S.nd)
      (ss_cons (sx_if (st_cmp (op_neA (n := 0) hu2) s2_ne (se_bin op_mod s2_mod (mv 3) (se_int)) (se_int) (nomark _))
      (ss_one (sx_ret (se_lc (own := [("_law_k", 7)]) S.nd (si_range1 T.b_range (se_callB (call_max2 rfl) sn_max (by rfl) T.b_max (by decide +kernel) (sa_cons (se_int) (sa_cons (se_callB (call_min2 rfl) sn_min (by rfl) T.b_min (by decide +kernel) (sa_cons (mv 2) (sa_cons (se_bin op_sub s2_sub (se_callB call_len sn_len (by rfl) T.b_len (by decide +kernel) (sa_cons (mv 0) (sa_nil))) (mv 1)) (sa_nil)))) (sa_nil))))) (blkOk_by (N := ["_law_script", "_law_start", "_law_most", "_law_first", "_law_number_here", "_law_found", "_law_many", "_law_k"]) (sc := defScope (top 6)) (by decide +kernel)) (tg_name 7) (fun _ _ _ _ _ => pg_name (i := 7) S.nd rfl (by first | exact Or.inl rfl | exact Or.inr rfl)) (fun _ _ _ _ _ => st_nil) (fun _ _ _ _ _ => se_callC c__law_cell_at (hr.mono (by omega)) takes0 (sa_cons (mv 0) (sa_cons (se_bin op_addA s2_add (mv 1) (mv 7)) (sa_nil)))))))
      (ss_nil))
      (ss_cons (sx_set (i := 4) (mv 3) S.nd)
      (ss_cons (sx_set (i := 5) (se_lst (sa_nil)) S.nd)
      (ss_cons (sx_set (i := 6) (se_bin op_addA s2_add (se_int) (se_bin op_mod s2_mod (se_bin op_fdivW s2_fdiv (mv 3) (se_int)) (mv 2))) S.nd)
      (ss_cons (sx_if (st_cmp (op_eqA (n := 0) hu2) s2_eq (se_bin op_mod s2_mod (se_bin op_fdivW s2_fdiv (mv 3) (se_int)) (se_int)) (se_int) (nomark _))
      (ss_one (sx_set (i := 6) (se_int) S.nd))
      (ss_nil))
      (ss_cons (sx_if (st_cmp (op_eqA (n := 0) hu2) s2_eq (se_bin op_mod s2_mod (se_bin op_fdivW s2_fdiv (mv 3) (se_int)) (se_int)) (se_int) (nomark _))
      (ss_one (sx_set (i := 6) (se_int) S.nd))
      (ss_nil))
      (ss_cons (sx_for (passes_of rfl) (si_range1 T.b_range (mv 6)) (sg_name (i := 7) S.nd)
      (ss_cons (sx_set (i := 4) (se_bin op_mod s2_mod (se_bin op_addA s2_add (se_bin op_addA s2_add (se_bin op_mulA s2_mul (mv 4) (se_int)) (se_int)) (mv 7)) (se_int)) S.nd)
      (ss_one (sx_expr (se_bm PySem.F.plainAttrs_list PySem.F.slot_list_append PySem.F.type_list_append mt_append sty_list sm_append (mv 5) (sa_cons (mv 4) (sa_nil)))))))
      (ss_one (sx_ret (mv 5))))))))))
theorem sc__law_parents : FnScope ["_law_cells_here", "_law_way", "_law_found", "_law_k", "_law_blend", "_law_far"] ["_law_cells_here"] (defScope (top 9)) := ⟨rfl, rfl, rfl, by decide +kernel, rfl, by decide +kernel, by decide +kernel⟩
theorem sim__law_parents (T : Txt K mg) (d : Df K mg "_law_parents" (top 9) ["_law_cells_here"]) : Cal P w K mg base "_law_parents" 1 (m_parents_75466) := by
  exact cal_mk (k := 0) d sc__law_parents fun f cdv A outer s H E hr => by
   have tk : Takes (cxOf (L2.CX P w) P w K mg base ["_law_cells_here", "_law_way", "_law_found", "_law_k", "_law_blend", "_law_far"] "_law_parents" (defScope (top 9)) f cdv A outer s H E) (fun c d _ H' => E c d H') := takes_of rfl rfl rfl rfl
   have hu : (A.deeper (PyProof.Rows.envOfC "_law_parents" (defScope (top 9)) s.heap.objs.size f cdv)).units + 65 < cLine := by have := hr.un; omega
   have hu2 : (A.deeper (PyProof.Rows.envOfC "_law_parents" (defScope (top 9)) s.heap.objs.size f cdv)).units + 0 + 200 < cLine := by have := hr.un; omega
   have S := sc__law_parents
   exact ss_cons (sx_set (i := 1) (se_bin op_mod s2_mod (se_ix ix_seq s2_ix (mv 0) (se_int) (fun _ _ => rfl)) (se_int)) S.nd)
      (ss_cons (sx_set (i := 2) (se_lst (sa_cons (se_int) (sa_nil))) S.nd)
      (ss_cons (sx_for (passes_of rfl) (si_range2 T.b_range (se_int) (se_callB call_len sn_len (by rfl) T.b_len (by decide +kernel) (sa_cons (mv 0) (sa_nil)))) (sg_name (i := 3) S.nd)
      (ss_cons (sx_set (i := 4) (se_bin op_fdivW s2_fdiv (se_bin op_mod s2_mod (se_bin op_mulA s2_mul (se_ix ix_seq s2_ix (mv 0) (mv 3) (fun _ _ => rfl)) (se_int)) (se_int)) (se_int)) S.nd)
      (ss_cons (sx_set (i := 5) (se_bin op_mod s2_mod (mv 4) (mv 3)) S.nd)
      (ss_cons (sx_if (st_cmp (op_eqA (n := 0) hu2) s2_eq (mv 1) (se_int) (nomark _))
      (ss_one (sx_set (i := 5) (se_bin op_mod s2_mod (mv 4) (se_callB (call_min2 rfl) sn_min (by rfl) T.b_min (by decide +kernel) (sa_cons (mv 3) (sa_cons (se_int) (sa_nil))))) S.nd))
      (ss_nil))
      (ss_cons (sx_if (st_cmp (op_eqA (n := 0) hu2) s2_eq (mv 1) (se_int) (nomark _))
      (ss_one (sx_set (i := 5) (se_bin op_sub s2_sub (se_bin op_sub s2_sub (mv 3) (se_int)) (se_bin op_mod s2_mod (mv 4) (se_callB (call_min2 rfl) sn_min (by rfl) T.b_min (by decide +kernel) (sa_cons (mv 3) (sa_cons (se_int) (sa_nil)))))) S.nd))
      (ss_nil))
      (ss_cons (sx_if (st_cmp (op_eqA (n := 0) hu2) s2_eq (mv 1) (se_int) (nomark _))
      (ss_one (sx_set (i := 5) (se_bin op_mod s2_mod (mv 4) (se_callB (call_min2 rfl) sn_min (by rfl) T.b_min (by decide +kernel) (sa_cons (mv 3) (sa_cons (se_int) (sa_nil))))) S.nd))
      (ss_nil))
      (ss_cons (sx_if (st_cmp op_ge s2_ge (se_ix ix_seq s2_ix (mv 0) (mv 3) (fun _ _ => rfl)) (se_bin op_pow s2_pow (se_int) (se_int)) (nomark _))
      (ss_one (sx_set (i := 5) (se_bin op_mod s2_mod (se_bin op_fdivW s2_fdiv (se_ix ix_seq s2_ix (mv 0) (mv 3) (fun _ _ => rfl)) (se_bin op_mulA s2_mul (se_int) (se_bin op_pow s2_pow (se_int) (se_int)))) (mv 3)) S.nd))
      (ss_nil))
      (ss_cons (sx_if (st_cmp op_gt s2_gt (se_callB call_len sn_len (by rfl) T.b_len (by decide +kernel) (sa_cons (mv 0) (sa_nil))) (se_int) (nomark _))
      (ss_one (sx_set (i := 5) (se_bin op_sub s2_sub (se_bin op_sub s2_sub (mv 3) (se_int)) (se_bin op_fdivW s2_fdiv (se_bin op_sub s2_sub (mv 3) (se_int)) (se_int))) S.nd))
      (ss_nil))
      (ss_cons (sx_if (st_cmp (op_eqA (n := 0) hu2) s2_eq (se_callB call_len sn_len (by rfl) T.b_len (by decide +kernel) (sa_cons (mv 0) (sa_nil))) (se_int) (nomark _))
      (ss_one (sx_set (i := 5) (se_int) S.nd))
      (ss_nil))
      (ss_one (sx_expr (se_bm PySem.F.plainAttrs_list PySem.F.slot_list_append PySem.F.type_list_append mt_append sty_list sm_append (mv 2) (sa_cons (se_bin op_sub s2_sub (se_bin op_sub s2_sub (mv 3) (se_int)) (mv 5)) (sa_nil))))))))))))))
      (ss_one (sx_ret (mv 2)))))
theorem sc__law_spelled : FnScope ["_law_rest", "_law_long", "_law_word", "_law_k"] ["_law_rest", "_law_long"] (defScope (top 7)) := ⟨rfl, rfl, rfl, by decide +kernel, rfl, by decide +kernel, by decide +kernel⟩
theorem sim__law_spelled (T : Txt K mg) (d : Df K mg "_law_spelled" (top 7) ["_law_rest", "_law_long"]) : Cal P w K mg base "_law_spelled" 1 (m_spelled_7a0ca) := by
  exact cal_mk (k := 0) d sc__law_spelled fun f cdv A outer s H E hr => by
   have tk : Takes (cxOf (L2.CX P w) P w K mg base ["_law_rest", "_law_long", "_law_word", "_law_k"] "_law_spelled" (defScope (top 7)) f cdv A outer s H E) (fun c d _ H' => E c d H') := takes_of rfl rfl rfl rfl
   have hu : (A.deeper (PyProof.Rows.envOfC "_law_spelled" (defScope (top 7)) s.heap.objs.size f cdv)).units + 65 < cLine := by have := hr.un; omega
   have hu2 : (A.deeper (PyProof.Rows.envOfC "_law_spelled" (defScope (top 7)) s.heap.objs.size f cdv)).units + 0 + 200 < cLine := by have := hr.un; omega
   have S := sc__law_spelled
   exact ss_cons (sx_set (i := 2) (se_str) S.nd)
      (ss_cons (sx_for (passes_of rfl) (si_range1 T.b_range (mv 1)) (sg_name (i := 3) S.nd)
      (ss_cons (sx_set (i := 2) (se_bin op_addA s2_add (mv 2) (se_ix ix_seq s2_ix (se_str) (se_bin op_mod s2_mod (mv 0) (se_int)) (fun _ _ => rfl))) S.nd)
      (ss_one (sx_set (i := 0) (se_bin op_fdivW s2_fdiv (mv 0) (se_int)) S.nd))))
      (ss_one (sx_ret (mv 2))))
theorem sc__law_name : FnScope ["_law_cell", "_law_letters", "_law_long", "_law_number_here", "_law_word", "_law_k", "_law_at"] ["_law_cell"] (defScope (top 8)) := ⟨rfl, rfl, rfl, by decide +kernel, rfl, by decide +kernel, by decide +kernel⟩
theorem sim__law_name (T : Txt K mg) (d : Df K mg "_law_name" (top 8) ["_law_cell"]) (c__law_spelled : Cal P w K mg base "_law_spelled" 1 (m_spelled_7a0ca)) : Cal P w K mg base "_law_name" 2 (m_name_35a2d) := by
  exact cal_mk (k := 1) d sc__law_name fun f cdv A outer s H E hr => by
   have tk : Takes (cxOf (L2.CX P w) P w K mg base ["_law_cell", "_law_letters", "_law_long", "_law_number_here", "_law_word", "_law_k", "_law_at"] "_law_name" (defScope (top 8)) f cdv A outer s H E) (fun c d _ H' => E c d H') := takes_of rfl rfl rfl rfl
   have hu : (A.deeper (PyProof.Rows.envOfC "_law_name" (defScope (top 8)) s.heap.objs.size f cdv)).units + 65 < cLine := by have := hr.un; omega
   have hu2 : (A.deeper (PyProof.Rows.envOfC "_law_name" (defScope (top 8)) s.heap.objs.size f cdv)).units + 0 + 200 < cLine := by have := hr.un; omega
   have S := sc__law_name
   exact ss_cons (sx_set (i := 1) (se_str) S.nd)
      (ss_cons (sx_set (i := 2) (se_bin op_addA s2_add (se_int) (se_bin op_mod s2_mod (mv 0) (se_int))) S.nd)
      (ss_cons (sx_if (st_cmp op_ge s2_ge (mv 0) (se_bin op_pow s2_pow (se_int) (se_int)) (nomark _))
      (ss_one (sx_ret (se_callC c__law_spelled (hr.mono (by omega)) tk (sa_cons (se_bin op_fdivW s2_fdiv (mv 0) (se_int)) (sa_cons (mv 2) (sa_nil))))))
      (ss_nil))
      (ss_cons (sx_if (st_cmp (op_eqA (n := 0) hu2) s2_eq (se_bin op_mod s2_mod (se_bin op_fdivW s2_fdiv (mv 0) (se_int)) (se_int)) (se_int) (nomark _))
      (ss_cons (sx_set (i := 6) (se_bin op_mod s2_mod (se_bin op_fdivW s2_fdiv (mv 0) (se_int)) (mv 2)) S.nd)
      (ss_one (sx_ret (se_bin op_addA s2_add (se_bin op_addA s2_add (se_bin op_mulA s2_mul (se_str) (mv 6)) (se_ix ix_seq s2_ix (mv 1) (se_bin op_mod s2_mod (se_bin op_fdivW s2_fdiv (mv 0) (se_int)) (se_int)) (fun _ _ => rfl))) (se_bin op_mulA s2_mul (se_str) (se_bin op_sub s2_sub (se_bin op_sub s2_sub (mv 2) (se_int)) (mv 6)))))))
      (ss_nil))
      (ss_cons (sx_set (i := 3) (mv 0) S.nd)
      (ss_cons (sx_set (i := 4) (se_str) S.nd)
      (ss_cons (sx_for (passes_of rfl) (si_range1 T.b_range (mv 2)) (sg_name (i := 5) S.nd)
      (ss_cons (sx_set (i := 3) (se_bin op_mod s2_mod (se_bin op_addA s2_add (se_bin op_mulA s2_mul (mv 3) (se_int)) (se_int)) (se_int)) S.nd)
      (ss_one (sx_set (i := 4) (se_bin op_addA s2_add (mv 4) (se_ix ix_seq s2_ix (mv 1) (se_bin op_mod s2_mod (se_bin op_fdivW s2_fdiv (mv 3) (se_int)) (se_int)) (fun _ _ => rfl))) S.nd))))
      (ss_one (sx_ret (mv 4)))))))))
theorem sc__law_docs : FnScope ["_law_cells_here", "_law_parents_here", "_law_children", "_law_made", "_law_k"] ["_law_cells_here", "_law_parents_here"] (defScope (top 10)) := ⟨rfl, rfl, rfl, by decide +kernel, rfl, by decide +kernel, by decide +kernel⟩
theorem sim__law_docs (T : Txt K mg) (d : Df K mg "_law_docs" (top 10) ["_law_cells_here", "_law_parents_here"]) (c__law_name : Cal P w K mg base "_law_name" 2 (m_name_35a2d)) : Cal P w K mg base "_law_docs" 3 (m_docs_a9091) := by
  exact cal_mk (k := 2) d sc__law_docs fun f cdv A outer s H E hr => by
   have tk : Takes (cxOf (L2.CX P w) P w K mg base ["_law_cells_here", "_law_parents_here", "_law_children", "_law_made", "_law_k"] "_law_docs" (defScope (top 10)) f cdv A outer s H E) (fun c d _ H' => E c d H') := takes_of rfl rfl rfl rfl
   have hu : (A.deeper (PyProof.Rows.envOfC "_law_docs" (defScope (top 10)) s.heap.objs.size f cdv)).units + 65 < cLine := by have := hr.un; omega
   have hu2 : (A.deeper (PyProof.Rows.envOfC "_law_docs" (defScope (top 10)) s.heap.objs.size f cdv)).units + 0 + 200 < cLine := by have := hr.un; omega
   have S := sc__law_docs
   exact ss_cons ((by first | exact sx_setLc (own := [("_law_k", 4)]) (i := 2) S.nd (si_iter (mv 0)) (blkOk_by (N := ["_law_cells_here", "_law_parents_here", "_law_children", "_law_made", "_law_k"]) (sc := defScope (top 10)) (by decide +kernel)) (tg_name 4) (fun _ _ _ _ _ => pg_name (i := 4) S.nd rfl (by first | exact Or.inl rfl | exact Or.inr rfl)) (fun _ _ _ _ _ => st_nil) (fun _ _ _ _ _ => se_tup (sa_nil)) | exact sx_set (i := 2) (se_lc (own := [("_law_k", 4)]) S.nd (si_iter (mv 0)) (blkOk_by (N := ["_law_cells_here", "_law_parents_here", "_law_children", "_law_made", "_law_k"]) (sc := defScope (top 10)) (by decide +kernel)) (tg_name 4) (fun _ _ _ _ _ => pg_name (i := 4) S.nd rfl (by first | exact Or.inl rfl | exact Or.inr rfl)) (fun _ _ _ _ _ => st_nil) (fun _ _ _ _ _ => se_tup (sa_nil))) S.nd))
      (ss_cons (sx_set (i := 3) (se_callTy call_list_of sn_list (by rfl) T.b_list (by decide +kernel) (sa_cons (mv 0) (sa_nil))) S.nd)
      (ss_cons (sx_for (passes_of rfl) (si_rev1 T.b_reversed T.b_range (se_callB call_len sn_len (by rfl) T.b_len (by decide +kernel) (sa_cons (mv 0) (sa_nil)))) (sg_name (i := 4) S.nd)
      (ss_cons (sx_setIx (mv 3) (mv 4) (se_tup (sa_cons (se_callC c__law_name (hr.mono (by omega)) tk (sa_cons (se_ix ix_seq s2_ix (mv 0) (mv 4) (fun _ _ => rfl)) (sa_nil))) (sa_cons (se_ix ix_seq s2_ix (mv 2) (mv 4) (fun _ _ => rfl)) (sa_nil)))))
      (ss_one (sx_if (st_cmp op_gt s2_gt (mv 4) (se_int) (nomark _))
      (ss_one (sx_setIx (mv 2) (se_ix ix_seq s2_ix (mv 1) (mv 4) (fun _ _ => rfl)) (se_bin op_addA s2_add (se_tup (sa_cons (se_ix ix_seq s2_ix (mv 3) (mv 4) (fun _ _ => rfl)) (sa_nil))) (se_ix ix_seq s2_ix (mv 2) (se_ix ix_seq s2_ix (mv 1) (mv 4) (fun _ _ => rfl)) (fun _ _ => rfl)))))
      (ss_nil)))))
      (ss_one (sx_ret (mv 3)))))
theorem sc__law_places : FnScope ["_law_parents_here", "_law_found", "_law_counts_here", "_law_k", "_law_above"] ["_law_parents_here"] (defScope (top 11)) := ⟨rfl, rfl, rfl, by decide +kernel, rfl, by decide +kernel, by decide +kernel⟩
theorem sim__law_places (T : Txt K mg) (d : Df K mg "_law_places" (top 11) ["_law_parents_here"]) : Cal P w K mg base "_law_places" 1 (m_places_4e2eb) := by
  exact cal_mk (k := 0) d sc__law_places fun f cdv A outer s H E hr => by
   have tk : Takes (cxOf (L2.CX P w) P w K mg base ["_law_parents_here", "_law_found", "_law_counts_here", "_law_k", "_law_above"] "_law_places" (defScope (top 11)) f cdv A outer s H E) (fun c d _ H' => E c d H') := takes_of rfl rfl rfl rfl
   have hu : (A.deeper (PyProof.Rows.envOfC "_law_places" (defScope (top 11)) s.heap.objs.size f cdv)).units + 65 < cLine := by have := hr.un; omega
   have hu2 : (A.deeper (PyProof.Rows.envOfC "_law_places" (defScope (top 11)) s.heap.objs.size f cdv)).units + 0 + 200 < cLine := by have := hr.un; omega
   have S := sc__law_places
   exact ss_cons (sx_set (i := 1) (se_lst (sa_cons (se_tup (sa_nil)) (sa_nil))) S.nd)
      (ss_cons ((by first | exact sx_setLc (own := [("_law_k", 3)]) (i := 2) S.nd (si_iter (mv 0)) (blkOk_by (N := ["_law_parents_here", "_law_found", "_law_counts_here", "_law_k", "_law_above"]) (sc := defScope (top 11)) (by decide +kernel)) (tg_name 3) (fun _ _ _ _ _ => pg_name (i := 3) S.nd rfl (by first | exact Or.inl rfl | exact Or.inr rfl)) (fun _ _ _ _ _ => st_nil) (fun _ _ _ _ _ => se_int) | exact sx_set (i := 2) (se_lc (own := [("_law_k", 3)]) S.nd (si_iter (mv 0)) (blkOk_by (N := ["_law_parents_here", "_law_found", "_law_counts_here", "_law_k", "_law_above"]) (sc := defScope (top 11)) (by decide +kernel)) (tg_name 3) (fun _ _ _ _ _ => pg_name (i := 3) S.nd rfl (by first | exact Or.inl rfl | exact Or.inr rfl)) (fun _ _ _ _ _ => st_nil) (fun _ _ _ _ _ => se_int)) S.nd))
      (ss_cons (sx_for (passes_of rfl) (si_range2 T.b_range (se_int) (se_callB call_len sn_len (by rfl) T.b_len (by decide +kernel) (sa_cons (mv 0) (sa_nil)))) (sg_name (i := 3) S.nd)
      (ss_cons (sx_set (i := 4) (se_ix ix_seq s2_ix (mv 0) (mv 3) (fun _ _ => rfl)) S.nd)
      (ss_cons (sx_expr (se_bm PySem.F.plainAttrs_list PySem.F.slot_list_append PySem.F.type_list_append mt_append sty_list sm_append (mv 1) (sa_cons (se_bin op_addA s2_add (se_ix ix_seq s2_ix (mv 1) (mv 4) (fun _ _ => rfl)) (se_tup (sa_cons (se_ix ix_seq s2_ix (mv 2) (mv 4) (fun _ _ => rfl)) (sa_nil)))) (sa_nil))))
      (ss_one (sx_setIx (mv 2) (mv 4) (se_bin op_addA s2_add (se_ix ix_seq s2_ix (mv 2) (mv 4) (fun _ _ => rfl)) (se_int)))))))
      (ss_one (sx_ret (mv 1)))))
theorem sc__law_counts : FnScope ["_law_parents_here", "_law_totals", "_law_heights", "_law_k", "_law_above"] ["_law_parents_here"] (defScope (top 14)) := ⟨rfl, rfl, rfl, by decide +kernel, rfl, by decide +kernel, by decide +kernel⟩
theorem sim__law_counts (T : Txt K mg) (d : Df K mg "_law_counts" (top 14) ["_law_parents_here"]) : Cal P w K mg base "_law_counts" 1 (m_counts_299ff) := by
  exact cal_mk (k := 0) d sc__law_counts fun f cdv A outer s H E hr => by
   have tk : Takes (cxOf (L2.CX P w) P w K mg base ["_law_parents_here", "_law_totals", "_law_heights", "_law_k", "_law_above"] "_law_counts" (defScope (top 14)) f cdv A outer s H E) (fun c d _ H' => E c d H') := takes_of rfl rfl rfl rfl
   have hu : (A.deeper (PyProof.Rows.envOfC "_law_counts" (defScope (top 14)) s.heap.objs.size f cdv)).units + 65 < cLine := by have := hr.un; omega
   have hu2 : (A.deeper (PyProof.Rows.envOfC "_law_counts" (defScope (top 14)) s.heap.objs.size f cdv)).units + 0 + 200 < cLine := by have := hr.un; omega
   have S := sc__law_counts
   exact ss_cons ((by first | exact sx_setLc (own := [("_law_k", 3)]) (i := 1) S.nd (si_iter (mv 0)) (blkOk_by (N := ["_law_parents_here", "_law_totals", "_law_heights", "_law_k", "_law_above"]) (sc := defScope (top 14)) (by decide +kernel)) (tg_name 3) (fun _ _ _ _ _ => pg_name (i := 3) S.nd rfl (by first | exact Or.inl rfl | exact Or.inr rfl)) (fun _ _ _ _ _ => st_nil) (fun _ _ _ _ _ => se_int) | exact sx_set (i := 1) (se_lc (own := [("_law_k", 3)]) S.nd (si_iter (mv 0)) (blkOk_by (N := ["_law_parents_here", "_law_totals", "_law_heights", "_law_k", "_law_above"]) (sc := defScope (top 14)) (by decide +kernel)) (tg_name 3) (fun _ _ _ _ _ => pg_name (i := 3) S.nd rfl (by first | exact Or.inl rfl | exact Or.inr rfl)) (fun _ _ _ _ _ => st_nil) (fun _ _ _ _ _ => se_int)) S.nd))
      (ss_cons ((by first | exact sx_setLc (own := [("_law_k", 3)]) (i := 2) S.nd (si_iter (mv 0)) (blkOk_by (N := ["_law_parents_here", "_law_totals", "_law_heights", "_law_k", "_law_above"]) (sc := defScope (top 14)) (by decide +kernel)) (tg_name 3) (fun _ _ _ _ _ => pg_name (i := 3) S.nd rfl (by first | exact Or.inl rfl | exact Or.inr rfl)) (fun _ _ _ _ _ => st_nil) (fun _ _ _ _ _ => se_int) | exact sx_set (i := 2) (se_lc (own := [("_law_k", 3)]) S.nd (si_iter (mv 0)) (blkOk_by (N := ["_law_parents_here", "_law_totals", "_law_heights", "_law_k", "_law_above"]) (sc := defScope (top 14)) (by decide +kernel)) (tg_name 3) (fun _ _ _ _ _ => pg_name (i := 3) S.nd rfl (by first | exact Or.inl rfl | exact Or.inr rfl)) (fun _ _ _ _ _ => st_nil) (fun _ _ _ _ _ => se_int)) S.nd))
      (ss_cons (sx_for (passes_of rfl) (si_rev2 T.b_reversed T.b_range (se_int) (se_callB call_len sn_len (by rfl) T.b_len (by decide +kernel) (sa_cons (mv 0) (sa_nil)))) (sg_name (i := 3) S.nd)
      (ss_cons (sx_set (i := 4) (se_ix ix_seq s2_ix (mv 0) (mv 3) (fun _ _ => rfl)) S.nd)
      (ss_cons (sx_setIx (mv 1) (mv 4) (se_bin op_addA s2_add (se_ix ix_seq s2_ix (mv 1) (mv 4) (fun _ _ => rfl)) (se_ix ix_seq s2_ix (mv 1) (mv 3) (fun _ _ => rfl))))
      (ss_one (sx_setIx (mv 2) (mv 4) (se_callB (call_max2 rfl) sn_max (by rfl) T.b_max (by decide +kernel) (sa_cons (se_ix ix_seq s2_ix (mv 2) (mv 4) (fun _ _ => rfl)) (sa_cons (se_bin op_addA s2_add (se_ix ix_seq s2_ix (mv 2) (mv 3) (fun _ _ => rfl)) (se_int)) (sa_nil)))))))))
      (ss_one (sx_ret (se_tup (sa_cons (mv 1) (sa_cons (mv 2) (sa_nil))))))))
theorem sc_places_of : FnScope ["doc", "found", "k", "place"] ["doc"] (defScope (top 3)) := ⟨rfl, rfl, rfl, by decide +kernel, rfl, by decide +kernel, by decide +kernel⟩
theorem sim_places_of (T : Txt K mg) (d : Df K mg "places_of" (top 3) ["doc"]) : ∀ n, Cal P w K mg base "places_of" (n + 1) (m_places_of_1d612 n)
 | 0 => cal_none d (fun _ _ => rfl)
 | n + 1 => by
  have c_self := sim_places_of T d n
  have e : n + 1 + 1 = (n + 1) + 1 := by omega
  rw [e]
  exact cal_mk (k := n + 1) d sc_places_of fun f cdv A outer s H E hr => by
   have tk : Takes (cxOf (L2.CX P w) P w K mg base ["doc", "found", "k", "place"] "places_of" (defScope (top 3)) f cdv A outer s H E) (fun c d _ H' => E c d H') := takes_of rfl rfl rfl rfl
   have hu : (A.deeper (PyProof.Rows.envOfC "places_of" (defScope (top 3)) s.heap.objs.size f cdv)).units + 65 < cLine := by have := hr.un; omega
   have hu2 : (A.deeper (PyProof.Rows.envOfC "places_of" (defScope (top 3)) s.heap.objs.size f cdv)).units + 0 + 200 < cLine := by have := hr.un; omega
   have S := sc_places_of
   exact ss_cons (sx_set (i := 1) (se_lst (sa_cons (se_tup (sa_nil)) (sa_nil))) S.nd)
      (ss_cons (sx_for (passes_of rfl) (si_range1 T.b_range (se_callB call_len sn_len (by rfl) T.b_len (by decide +kernel) (sa_cons (se_ix ix_seq s2_ix (mv 0) (se_int) (fun _ _ => rfl)) (sa_nil)))) (sg_name (i := 2) S.nd)
      (ss_one (sx_for (passes_of rfl) (si_iter (se_callC c_self (hr.mono (by omega)) tk (sa_cons (se_ix ix_seq s2_ix (se_ix ix_seq s2_ix (mv 0) (se_int) (fun _ _ => rfl)) (mv 2) (fun _ _ => rfl)) (sa_nil)))) (sg_name (i := 3) S.nd)
      (ss_one (sx_expr (se_bm PySem.F.plainAttrs_list PySem.F.slot_list_append PySem.F.type_list_append mt_append sty_list sm_append (mv 1) (sa_cons (se_bin op_addA s2_add (se_tup (sa_cons (mv 2) (sa_nil))) (mv 3)) (sa_nil))))))))
      (ss_one (sx_ret (mv 1))))
theorem sc__law_number : FnScope ["_law_found", "_law_due"] ["_law_found", "_law_due"] (defScope (top 12)) := ⟨rfl, rfl, rfl, by decide +kernel, rfl, by decide +kernel, by decide +kernel⟩
theorem sim__law_number (T : Txt K mg) (d : Df K mg "_law_number" (top 12) ["_law_found", "_law_due"]) : Cal P w K mg base "_law_number" 1 (m_number_d6252) := by
  exact cal_mk (k := 0) d sc__law_number fun f cdv A outer s H E hr => by
   have tk : Takes (cxOf (L2.CX P w) P w K mg base ["_law_found", "_law_due"] "_law_number" (defScope (top 12)) f cdv A outer s H E) (fun c d _ H' => E c d H') := takes_of rfl rfl rfl rfl
   have hu : (A.deeper (PyProof.Rows.envOfC "_law_number" (defScope (top 12)) s.heap.objs.size f cdv)).units + 65 < cLine := by have := hr.un; omega
   have hu2 : (A.deeper (PyProof.Rows.envOfC "_law_number" (defScope (top 12)) s.heap.objs.size f cdv)).units + 0 + 200 < cLine := by have := hr.un; omega
   have S := sc__law_number
   exact ss_one (sx_ret (se_and (se_isi (mv 0) T.b_isinstance T.b_int (by decide +kernel)) (se_and (se_not (se_isi (mv 0) T.b_isinstance T.b_bool (by decide +kernel))) (se_one (se_cmp (op_eqA (n := 0) hu2) s2_eq (mv 0) (mv 1) (nomark _))))))
theorem sc__law_alike : FnScope ["_law_told", "_law_due", "_law_k", "_law_j"] ["_law_told", "_law_due"] (defScope (top 13)) := ⟨rfl, rfl, rfl, by decide +kernel, rfl, by decide +kernel, by decide +kernel⟩
theorem sim__law_alike (T : Txt K mg) (d : Df K mg "_law_alike" (top 13) ["_law_told", "_law_due"]) (c__law_number : Cal P w K mg base "_law_number" 1 (m_number_d6252)) : Cal P w K mg base "_law_alike" 2 (m_alike_9d8a9) := by
  exact cal_mk (k := 1) d sc__law_alike fun f cdv A outer s H E hr => by
   have tk : Takes (cxOf (L2.CX P w) P w K mg base ["_law_told", "_law_due", "_law_k", "_law_j"] "_law_alike" (defScope (top 13)) f cdv A outer s H E) (fun c d _ H' => E c d H') := takes_of rfl rfl rfl rfl
   have hu : (A.deeper (PyProof.Rows.envOfC "_law_alike" (defScope (top 13)) s.heap.objs.size f cdv)).units + 65 < cLine := by have := hr.un; omega
   have hu2 : (A.deeper (PyProof.Rows.envOfC "_law_alike" (defScope (top 13)) s.heap.objs.size f cdv)).units + 0 + 200 < cLine := by have := hr.un; omega
   have S := sc__law_alike
   exact ss_cons (sx_if ((sw_or (st_not (st_val (se_isi (mv 0) T.b_isinstance T.b_list (by decide +kernel)))) (sw_or1 (st_cmp (op_neA (n := 0) hu2) s2_ne (se_callB call_len sn_len (by rfl) T.b_len (by decide +kernel) (sa_cons (mv 0) (sa_nil))) (se_callB call_len sn_len (by rfl) T.b_len (by decide +kernel) (sa_cons (mv 1) (sa_nil))) (nomark _)))).pt)
      (ss_one (sx_ret (se_bl)))
      (ss_nil))
      (ss_cons (sx_for (passes_of rfl) (si_range1 T.b_range (se_callB call_len sn_len (by rfl) T.b_len (by decide +kernel) (sa_cons (mv 1) (sa_nil)))) (sg_name (i := 2) S.nd)
      (ss_cons (sx_if ((sw_or (st_not (st_val (se_isi (se_ix ix_seq s2_ix (mv 0) (mv 2) (fun _ _ => rfl)) T.b_isinstance T.b_tuple (by decide +kernel)))) (sw_or1 (st_cmp (op_neA (n := 0) hu2) s2_ne (se_callB call_len sn_len (by rfl) T.b_len (by decide +kernel) (sa_cons (se_ix ix_seq s2_ix (mv 0) (mv 2) (fun _ _ => rfl)) (sa_nil))) (se_callB call_len sn_len (by rfl) T.b_len (by decide +kernel) (sa_cons (se_ix ix_seq s2_ix (mv 1) (mv 2) (fun _ _ => rfl)) (sa_nil))) (nomark _)))).pt)
      (ss_one (sx_ret (se_bl)))
      (ss_nil))
      (ss_one (sx_for (passes_of rfl) (si_range1 T.b_range (se_callB call_len sn_len (by rfl) T.b_len (by decide +kernel) (sa_cons (se_ix ix_seq s2_ix (mv 1) (mv 2) (fun _ _ => rfl)) (sa_nil)))) (sg_name (i := 3) S.nd)
      (ss_one (sx_if (st_not (st_val (se_callC c__law_number (hr.mono (by omega)) tk (sa_cons (se_ix ix_seq s2_ix (se_ix ix_seq s2_ix (mv 0) (mv 2) (fun _ _ => rfl)) (mv 3) (fun _ _ => rfl)) (sa_cons (se_ix ix_seq s2_ix (se_ix ix_seq s2_ix (mv 1) (mv 2) (fun _ _ => rfl)) (mv 3) (fun _ _ => rfl)) (sa_nil))))))
      (ss_one (sx_ret (se_bl)))
      (ss_nil)))))))
      (ss_one (sx_ret (se_bl))))
theorem sc_size_of : FnScope ["doc", "many", "child"] ["doc"] (defScope (top 1)) := ⟨rfl, rfl, rfl, by decide +kernel, rfl, by decide +kernel, by decide +kernel⟩
theorem sim_size_of (T : Txt K mg) (d : Df K mg "size_of" (top 1) ["doc"]) : ∀ n, Cal P w K mg base "size_of" (n + 1) (m_size_of_efccc n)
 | 0 => cal_none d (fun _ _ => rfl)
 | n + 1 => by
  have c_self := sim_size_of T d n
  have e : n + 1 + 1 = (n + 1) + 1 := by omega
  rw [e]
  exact cal_mk (k := n + 1) d sc_size_of fun f cdv A outer s H E hr => by
   have tk : Takes (cxOf (L2.CX P w) P w K mg base ["doc", "many", "child"] "size_of" (defScope (top 1)) f cdv A outer s H E) (fun c d _ H' => E c d H') := takes_of rfl rfl rfl rfl
   have hu : (A.deeper (PyProof.Rows.envOfC "size_of" (defScope (top 1)) s.heap.objs.size f cdv)).units + 65 < cLine := by have := hr.un; omega
   have hu2 : (A.deeper (PyProof.Rows.envOfC "size_of" (defScope (top 1)) s.heap.objs.size f cdv)).units + 0 + 200 < cLine := by have := hr.un; omega
   have S := sc_size_of
   exact ss_cons (sx_set (i := 1) (se_int) S.nd)
      (ss_cons (sx_for (passes_of rfl) (si_iter (se_ix ix_seq s2_ix (mv 0) (se_int) (fun _ _ => rfl))) (sg_name (i := 2) S.nd)
      (ss_one (sx_set (i := 1) (se_bin op_addA s2_add (mv 1) (se_callC c_self (hr.mono (by omega)) tk (sa_cons (mv 2) (sa_nil)))) S.nd)))
      (ss_one (sx_ret (mv 1))))
theorem sc_height_of : FnScope ["doc", "most", "child"] ["doc"] (defScope (top 2)) := ⟨rfl, rfl, rfl, by decide +kernel, rfl, by decide +kernel, by decide +kernel⟩
theorem sim_height_of (T : Txt K mg) (d : Df K mg "height_of" (top 2) ["doc"]) : ∀ n, Cal P w K mg base "height_of" (n + 1) (m_height_of_29386 n)
 | 0 => cal_none d (fun _ _ => rfl)
 | n + 1 => by
  have c_self := sim_height_of T d n
  have e : n + 1 + 1 = (n + 1) + 1 := by omega
  rw [e]
  exact cal_mk (k := n + 1) d sc_height_of fun f cdv A outer s H E hr => by
   have tk : Takes (cxOf (L2.CX P w) P w K mg base ["doc", "most", "child"] "height_of" (defScope (top 2)) f cdv A outer s H E) (fun c d _ H' => E c d H') := takes_of rfl rfl rfl rfl
   have hu : (A.deeper (PyProof.Rows.envOfC "height_of" (defScope (top 2)) s.heap.objs.size f cdv)).units + 65 < cLine := by have := hr.un; omega
   have hu2 : (A.deeper (PyProof.Rows.envOfC "height_of" (defScope (top 2)) s.heap.objs.size f cdv)).units + 0 + 200 < cLine := by have := hr.un; omega
   have S := sc_height_of
   exact ss_cons (sx_set (i := 1) (se_int) S.nd)
      (ss_cons (sx_for (passes_of rfl) (si_iter (se_ix ix_seq s2_ix (mv 0) (se_int) (fun _ _ => rfl))) (sg_name (i := 2) S.nd)
      (ss_one (sx_set (i := 1) (se_callB (call_max2 rfl) sn_max (by rfl) T.b_max (by decide +kernel) (sa_cons (mv 1) (sa_cons (se_callC c_self (hr.mono (by omega)) tk (sa_cons (mv 2) (sa_nil))) (sa_nil)))) S.nd)))
      (ss_one (sx_ret (se_bin op_addA s2_add (mv 1) (se_int)))))
theorem sc_law : FnScope ["_law_script", "_law_cells_here", "_law_parents_here", "_law_docs_here", "_law_places_here", "_law_told", "_law_k", "_law_below", "_law_totals", "_law_heights", "_law_place"] ["_law_script"] (defScope (top 15)) := ⟨rfl, rfl, rfl, by decide +kernel, rfl, by decide +kernel, by decide +kernel⟩
theorem sim_law {fa : Addr} {fd : FuncData} (T : Txt K mg) (F : Fun K "law" "law" (top 15) fa fd) (c__law_cells : Cal P w K mg base "_law_cells" 2 (m_cells_33ed8)) (c__law_parents : Cal P w K mg base "_law_parents" 1 (m_parents_75466)) (c__law_docs : Cal P w K mg base "_law_docs" 3 (m_docs_a9091)) (c__law_places : Cal P w K mg base "_law_places" 1 (m_places_4e2eb)) (c__law_counts : Cal P w K mg base "_law_counts" 1 (m_counts_299ff)) (c_places_of : Cal P w K mg base "places_of" 101 (m_places_of_1d612 100)) (c__law_alike : Cal P w K mg base "_law_alike" 2 (m_alike_9d8a9)) (c__law_number : Cal P w K mg base "_law_number" 1 (m_number_d6252)) (c_height_of : Cal P w K mg base "height_of" 101 (m_height_of_29386 100)) (c_size_of : Cal P w K mg base "size_of" 101 (m_size_of_efccc 100)) (c__law_cell_at : Cal P w K mg base "_law_cell_at" 1 (m_cell_at_5ae90)) : FnOk P w K mg base (L2.CX P w) 102 fa fd ["_law_script"] (spM (gOf w K) m_law_2fde9) := by
  exact fn_mk (k := 101) F sc_law fun cdv A outer s H E hr => by
   have tk : Takes (cxOf (L2.CX P w) P w K mg base ["_law_script", "_law_cells_here", "_law_parents_here", "_law_docs_here", "_law_places_here", "_law_told", "_law_k", "_law_below", "_law_totals", "_law_heights", "_law_place"] "law" (defScope (top 15)) fa cdv A outer s H E) (fun c d _ H' => E c d H') := takes_of rfl rfl rfl rfl
   have hu : (A.deeper (PyProof.Rows.envOfC "law" (defScope (top 15)) s.heap.objs.size fa cdv)).units + 65 < cLine := by have := hr.un; omega
   have hu2 : (A.deeper (PyProof.Rows.envOfC "law" (defScope (top 15)) s.heap.objs.size fa cdv)).units + 0 + 200 < cLine := by have := hr.un; omega
   have S := sc_law
   exact ss_cons (sx_set (i := 1) (se_callC c__law_cells (hr.mono (by omega)) tk (sa_cons (mv 0) (sa_cons (se_int) (sa_cons (se_int) (sa_nil))))) S.nd)
      (ss_cons (sx_set (i := 2) (se_callC c__law_parents (hr.mono (by omega)) tk (sa_cons (mv 1) (sa_nil))) S.nd)
      (ss_cons (sx_set (i := 3) (se_callC c__law_docs (hr.mono (by omega)) tk (sa_cons (mv 1) (sa_cons (mv 2) (sa_nil)))) S.nd)
      (ss_cons (sx_set (i := 4) (se_callC c__law_places (hr.mono (by omega)) tk (sa_cons (mv 2) (sa_nil))) S.nd)
      (ss_cons (sx_setT (se_callC c__law_counts (hr.mono (by omega)) tk (sa_cons (mv 2) (sa_nil))) (sg_tup (sgs_cons (sg_name (i := 8) S.nd) (sgs_cons (sg_name (i := 9) S.nd) (sgs_nil))) (many_cons (many_cons many_nil))))
      (ss_cons (sx_set (i := 5) (se_callC c_places_of (hr.mono (by omega)) tk (sa_cons (se_ix ix_seq s2_ix (mv 3) (se_int) (fun _ _ => rfl)) (sa_nil))) S.nd)
      (ss_cons (sx_if (st_not (st_val (se_callC c__law_alike (hr.mono (by omega)) tk (sa_cons (mv 5) (sa_cons (se_callB (cr_sortTI hu) sn_sortTI (by rfl) T.b_sorted (by decide +kernel) (sa_cons (mv 4) (sa_nil))) (sa_nil))))))
      (ss_one (sx_ret (se_bl)))
      (ss_nil))
      (ss_cons (sx_expr (se_bm PySem.F.plainAttrs_list PySem.F.slot_list_append PySem.F.type_list_append mt_append sty_list sm_append (mv 5) (sa_cons (se_tup (sa_cons (se_int) (sa_nil))) (sa_nil))))
      (ss_cons (sx_setIx (mv 5) (se_int) (se_tup (sa_cons (se_callB call_len sn_len (by rfl) T.b_len (by decide +kernel) (sa_cons (mv 4) (sa_nil))) (sa_nil))))
      (ss_cons (sx_for (passes_of rfl) (si_range1 T.b_range (se_callB call_len sn_len (by rfl) T.b_len (by decide +kernel) (sa_cons (mv 3) (sa_nil)))) (sg_name (i := 6) S.nd)
      (ss_one (sx_if ((sw_or (st_not (st_val (se_callC c__law_number (hr.mono (by omega)) tk (sa_cons (se_callC c_size_of (hr.mono (by omega)) tk (sa_cons (se_ix ix_seq s2_ix (mv 3) (mv 6) (fun _ _ => rfl)) (sa_nil))) (sa_cons (se_ix ix_seq s2_ix (mv 8) (mv 6) (fun _ _ => rfl)) (sa_nil)))))) (sw_or1 (st_not (st_val (se_callC c__law_number (hr.mono (by omega)) tk (sa_cons (se_callC c_height_of (hr.mono (by omega)) tk (sa_cons (se_ix ix_seq s2_ix (mv 3) (mv 6) (fun _ _ => rfl)) (sa_nil))) (sa_cons (se_ix ix_seq s2_ix (mv 9) (mv 6) (fun _ _ => rfl)) (sa_nil)))))))).pt)
      (ss_one (sx_ret (se_bl)))
      (ss_nil))))
      (ss_cons (sx_set (i := 6) (se_bin op_mod s2_mod (se_callC c__law_cell_at (hr.mono (by omega)) tk (sa_cons (mv 0) (sa_cons (se_int) (sa_nil)))) (se_callB call_len sn_len (by rfl) T.b_len (by decide +kernel) (sa_cons (mv 3) (sa_nil)))) S.nd)
      (ss_cons ((by first | exact sx_setLc (own := [("_law_place", 10)]) (i := 7) S.nd (si_iter (se_callB (cr_sortTI hu) sn_sortTI (by rfl) T.b_sorted (by decide +kernel) (sa_cons (mv 4) (sa_nil)))) (blkOk_by (N := ["_law_script", "_law_cells_here", "_law_parents_here", "_law_docs_here", "_law_places_here", "_law_told", "_law_k", "_law_below", "_law_totals", "_law_heights", "_law_place"]) (sc := defScope (top 15)) (by decide +kernel)) (tg_name 10) (fun _ _ _ _ _ => pg_name (i := 10) S.nd rfl (by first | exact Or.inl rfl | exact Or.inr rfl)) (fun _ _ _ _ _ => st_one (st_cmp (op_eqA (n := 0) hu2) s2_eq (se_slice (mv 10) (sp_none) (sp_some (se_callB call_len sn_len (by rfl) T.b_len (by decide +kernel) (sa_cons (se_ix ix_seq s2_ix (mv 4) (mv 6) (fun _ _ => rfl)) (sa_nil))))) (se_ix ix_seq s2_ix (mv 4) (mv 6) (fun _ _ => rfl)) (nomark _))) (fun _ _ _ _ _ => se_slice (mv 10) (sp_some (se_callB call_len sn_len (by rfl) T.b_len (by decide +kernel) (sa_cons (se_ix ix_seq s2_ix (mv 4) (mv 6) (fun _ _ => rfl)) (sa_nil)))) (sp_none)) | exact sx_set (i := 7) (se_lc (own := [("_law_place", 10)]) S.nd (si_iter (se_callB (cr_sortTI hu) sn_sortTI (by rfl) T.b_sorted (by decide +kernel) (sa_cons (mv 4) (sa_nil)))) (blkOk_by (N := ["_law_script", "_law_cells_here", "_law_parents_here", "_law_docs_here", "_law_places_here", "_law_told", "_law_k", "_law_below", "_law_totals", "_law_heights", "_law_place"]) (sc := defScope (top 15)) (by decide +kernel)) (tg_name 10) (fun _ _ _ _ _ => pg_name (i := 10) S.nd rfl (by first | exact Or.inl rfl | exact Or.inr rfl)) (fun _ _ _ _ _ => st_one (st_cmp (op_eqA (n := 0) hu2) s2_eq (se_slice (mv 10) (sp_none) (sp_some (se_callB call_len sn_len (by rfl) T.b_len (by decide +kernel) (sa_cons (se_ix ix_seq s2_ix (mv 4) (mv 6) (fun _ _ => rfl)) (sa_nil))))) (se_ix ix_seq s2_ix (mv 4) (mv 6) (fun _ _ => rfl)) (nomark _))) (fun _ _ _ _ _ => se_slice (mv 10) (sp_some (se_callB call_len sn_len (by rfl) T.b_len (by decide +kernel) (sa_cons (se_ix ix_seq s2_ix (mv 4) (mv 6) (fun _ _ => rfl)) (sa_nil)))) (sp_none))) S.nd))
      (ss_one (sx_ret (se_and (se_callC c__law_alike (hr.mono (by omega)) tk (sa_cons (se_callC c_places_of (hr.mono (by omega)) tk (sa_cons (se_ix ix_seq s2_ix (mv 3) (mv 6) (fun _ _ => rfl)) (sa_nil))) (sa_cons (mv 7) (sa_nil)))) (se_one (se_callC c__law_alike (hr.mono (by omega)) tk (sa_cons (se_callC c_places_of (hr.mono (by omega)) tk (sa_cons (se_ix ix_seq s2_ix (mv 3) (se_int) (fun _ _ => rfl)) (sa_nil))) (sa_cons (se_callB (cr_sortTI hu) sn_sortTI (by rfl) T.b_sorted (by decide +kernel) (sa_cons (mv 4) (sa_nil))) (sa_nil)))))))))))))))))))
end
theorem all_mk {l : PySem.W.OpenLaw} {w : World} {K : PySem.W.Frag} {h : Heap} {mg : Str → Option Value} {fa : Addr} (X : K.In h) (G : h.Ns mainGlobals mg) (hfa : mg "law" = some (.ref fa))
    {f0 : Addr} {od0 an0 : Option Addr} {sl0 : Array (Option Value)} {oc0 kV0 dc0 pm0 cd0 ct0 : Value} {f1 : Addr} {od1 an1 : Option Addr} {sl1 : Array (Option Value)} {oc1 kV1 dc1 pm1 cd1 ct1 : Value} {f2 : Addr} {od2 an2 : Option Addr} {sl2 : Array (Option Value)} {oc2 kV2 dc2 pm2 cd2 ct2 : Value} {f3 : Addr} {od3 an3 : Option Addr} {sl3 : Array (Option Value)} {oc3 kV3 dc3 pm3 cd3 ct3 : Value} {f4 : Addr} {od4 an4 : Option Addr} {sl4 : Array (Option Value)} {oc4 kV4 dc4 pm4 cd4 ct4 : Value} {f5 : Addr} {od5 an5 : Option Addr} {sl5 : Array (Option Value)} {oc5 kV5 dc5 pm5 cd5 ct5 : Value} {f6 : Addr} {od6 an6 : Option Addr} {sl6 : Array (Option Value)} {oc6 kV6 dc6 pm6 cd6 ct6 : Value} {f7 : Addr} {od7 an7 : Option Addr} {sl7 : Array (Option Value)} {oc7 kV7 dc7 pm7 cd7 ct7 : Value} {f8 : Addr} {od8 an8 : Option Addr} {sl8 : Array (Option Value)} {oc8 kV8 dc8 pm8 cd8 ct8 : Value} {f9 : Addr} {od9 an9 : Option Addr} {sl9 : Array (Option Value)} {oc9 kV9 dc9 pm9 cd9 ct9 : Value} {f10 : Addr} {od10 an10 : Option Addr} {sl10 : Array (Option Value)} {oc10 kV10 dc10 pm10 cd10 ct10 : Value} {f11 : Addr} {od11 an11 : Option Addr} {sl11 : Array (Option Value)} {oc11 kV11 dc11 pm11 cd11 ct11 : Value} {f12 : Addr} {od12 an12 : Option Addr} {sl12 : Array (Option Value)} {oc12 kV12 dc12 pm12 cd12 ct12 : Value} {f13 : Addr} {od13 an13 : Option Addr} {sl13 : Array (Option Value)} {oc13 kV13 dc13 pm13 cd13 ct13 : Value}
    (a0 : PySem.W.nsIn K mainGlobals "_law_cell_at" = some (some (.ref f0)))
    (l0 : K.lookup f0 = some ⟨oc0, od0, .func (PySem.W.fnOf "_law_cell_at" "_law_cell_at" (defArgs (top 5)) (defBody (top 5)) (defScope (top 5)) .none kV0 dc0 pm0 an0 cd0 ct0), sl0⟩) (e0 : PySem.W.codeIn K cd0 "_law_cell_at" = true) (k0 : PySem.W.keepIn K (.ref f0) = true)
    (a1 : PySem.W.nsIn K mainGlobals "_law_cells" = some (some (.ref f1)))
    (l1 : K.lookup f1 = some ⟨oc1, od1, .func (PySem.W.fnOf "_law_cells" "_law_cells" (defArgs (top 6)) (defBody (top 6)) (defScope (top 6)) .none kV1 dc1 pm1 an1 cd1 ct1), sl1⟩) (e1 : PySem.W.codeIn K cd1 "_law_cells" = true) (k1 : PySem.W.keepIn K (.ref f1) = true)
    (a2 : PySem.W.nsIn K mainGlobals "_law_parents" = some (some (.ref f2)))
    (l2 : K.lookup f2 = some ⟨oc2, od2, .func (PySem.W.fnOf "_law_parents" "_law_parents" (defArgs (top 9)) (defBody (top 9)) (defScope (top 9)) .none kV2 dc2 pm2 an2 cd2 ct2), sl2⟩) (e2 : PySem.W.codeIn K cd2 "_law_parents" = true) (k2 : PySem.W.keepIn K (.ref f2) = true)
    (a3 : PySem.W.nsIn K mainGlobals "_law_spelled" = some (some (.ref f3)))
    (l3 : K.lookup f3 = some ⟨oc3, od3, .func (PySem.W.fnOf "_law_spelled" "_law_spelled" (defArgs (top 7)) (defBody (top 7)) (defScope (top 7)) .none kV3 dc3 pm3 an3 cd3 ct3), sl3⟩) (e3 : PySem.W.codeIn K cd3 "_law_spelled" = true) (k3 : PySem.W.keepIn K (.ref f3) = true)
    (a4 : PySem.W.nsIn K mainGlobals "_law_name" = some (some (.ref f4)))
    (l4 : K.lookup f4 = some ⟨oc4, od4, .func (PySem.W.fnOf "_law_name" "_law_name" (defArgs (top 8)) (defBody (top 8)) (defScope (top 8)) .none kV4 dc4 pm4 an4 cd4 ct4), sl4⟩) (e4 : PySem.W.codeIn K cd4 "_law_name" = true) (k4 : PySem.W.keepIn K (.ref f4) = true)
    (a5 : PySem.W.nsIn K mainGlobals "_law_docs" = some (some (.ref f5)))
    (l5 : K.lookup f5 = some ⟨oc5, od5, .func (PySem.W.fnOf "_law_docs" "_law_docs" (defArgs (top 10)) (defBody (top 10)) (defScope (top 10)) .none kV5 dc5 pm5 an5 cd5 ct5), sl5⟩) (e5 : PySem.W.codeIn K cd5 "_law_docs" = true) (k5 : PySem.W.keepIn K (.ref f5) = true)
    (a6 : PySem.W.nsIn K mainGlobals "_law_places" = some (some (.ref f6)))
    (l6 : K.lookup f6 = some ⟨oc6, od6, .func (PySem.W.fnOf "_law_places" "_law_places" (defArgs (top 11)) (defBody (top 11)) (defScope (top 11)) .none kV6 dc6 pm6 an6 cd6 ct6), sl6⟩) (e6 : PySem.W.codeIn K cd6 "_law_places" = true) (k6 : PySem.W.keepIn K (.ref f6) = true)
    (a7 : PySem.W.nsIn K mainGlobals "_law_counts" = some (some (.ref f7)))
    (l7 : K.lookup f7 = some ⟨oc7, od7, .func (PySem.W.fnOf "_law_counts" "_law_counts" (defArgs (top 14)) (defBody (top 14)) (defScope (top 14)) .none kV7 dc7 pm7 an7 cd7 ct7), sl7⟩) (e7 : PySem.W.codeIn K cd7 "_law_counts" = true) (k7 : PySem.W.keepIn K (.ref f7) = true)
    (a8 : PySem.W.nsIn K mainGlobals "places_of" = some (some (.ref f8)))
    (l8 : K.lookup f8 = some ⟨oc8, od8, .func (PySem.W.fnOf "places_of" "places_of" (defArgs (top 3)) (defBody (top 3)) (defScope (top 3)) .none kV8 dc8 pm8 an8 cd8 ct8), sl8⟩) (e8 : PySem.W.codeIn K cd8 "places_of" = true) (k8 : PySem.W.keepIn K (.ref f8) = true)
    (a9 : PySem.W.nsIn K mainGlobals "_law_number" = some (some (.ref f9)))
    (l9 : K.lookup f9 = some ⟨oc9, od9, .func (PySem.W.fnOf "_law_number" "_law_number" (defArgs (top 12)) (defBody (top 12)) (defScope (top 12)) .none kV9 dc9 pm9 an9 cd9 ct9), sl9⟩) (e9 : PySem.W.codeIn K cd9 "_law_number" = true) (k9 : PySem.W.keepIn K (.ref f9) = true)
    (a10 : PySem.W.nsIn K mainGlobals "_law_alike" = some (some (.ref f10)))
    (l10 : K.lookup f10 = some ⟨oc10, od10, .func (PySem.W.fnOf "_law_alike" "_law_alike" (defArgs (top 13)) (defBody (top 13)) (defScope (top 13)) .none kV10 dc10 pm10 an10 cd10 ct10), sl10⟩) (e10 : PySem.W.codeIn K cd10 "_law_alike" = true) (k10 : PySem.W.keepIn K (.ref f10) = true)
    (a11 : PySem.W.nsIn K mainGlobals "size_of" = some (some (.ref f11)))
    (l11 : K.lookup f11 = some ⟨oc11, od11, .func (PySem.W.fnOf "size_of" "size_of" (defArgs (top 1)) (defBody (top 1)) (defScope (top 1)) .none kV11 dc11 pm11 an11 cd11 ct11), sl11⟩) (e11 : PySem.W.codeIn K cd11 "size_of" = true) (k11 : PySem.W.keepIn K (.ref f11) = true)
    (a12 : PySem.W.nsIn K mainGlobals "height_of" = some (some (.ref f12)))
    (l12 : K.lookup f12 = some ⟨oc12, od12, .func (PySem.W.fnOf "height_of" "height_of" (defArgs (top 2)) (defBody (top 2)) (defScope (top 2)) .none kV12 dc12 pm12 an12 cd12 ct12), sl12⟩) (e12 : PySem.W.codeIn K cd12 "height_of" = true) (k12 : PySem.W.keepIn K (.ref f12) = true)
    (a13 : PySem.W.nsIn K mainGlobals "law" = some (some (.ref f13)))
    (l13 : K.lookup f13 = some ⟨oc13, od13, .func (PySem.W.fnOf "law" "law" (defArgs (top 15)) (defBody (top 15)) (defScope (top 15)) .none kV13 dc13 pm13 an13 cd13 ct13), sl13⟩) (e13 : PySem.W.codeIn K cd13 "law" = true) (k13 : PySem.W.keepIn K (.ref f13) = true)
    (zb_abs : PySem.W.nsIn K mainGlobals "abs" = some none)
    (zb_bool : PySem.W.nsIn K mainGlobals "bool" = some none)
    (zb_int : PySem.W.nsIn K mainGlobals "int" = some none)
    (zb_isinstance : PySem.W.nsIn K mainGlobals "isinstance" = some none)
    (zb_len : PySem.W.nsIn K mainGlobals "len" = some none)
    (zb_list : PySem.W.nsIn K mainGlobals "list" = some none)
    (zb_max : PySem.W.nsIn K mainGlobals "max" = some none)
    (zb_min : PySem.W.nsIn K mainGlobals "min" = some none)
    (zb_range : PySem.W.nsIn K mainGlobals "range" = some none)
    (zb_reversed : PySem.W.nsIn K mainGlobals "reversed" = some none)
    (zb_sorted : PySem.W.nsIn K mainGlobals "sorted" = some none)
    (zb_tuple : PySem.W.nsIn K mainGlobals "tuple" = some none) :
    ∃ fd : FuncData, (∀ (s : Shared) (v : Value), BindsTo s fd ⟨[v], []⟩ [("_law_script", v)]) ∧ ∀ base : Heap, K.In base → base.Ns mainGlobals mg → FnOk l.prog w K mg base (L2.CX l.prog w) 102 fa fd ["_law_script"] (spM (gOf w K) m_law_2fde9) := by
  have T : Txt K mg := ⟨PySem.W.mg_none_of X G zb_abs, PySem.W.mg_none_of X G zb_bool, PySem.W.mg_none_of X G zb_int, PySem.W.mg_none_of X G zb_isinstance, PySem.W.mg_none_of X G zb_len, PySem.W.mg_none_of X G zb_list, PySem.W.mg_none_of X G zb_max, PySem.W.mg_none_of X G zb_min, PySem.W.mg_none_of X G zb_range, PySem.W.mg_none_of X G zb_reversed, PySem.W.mg_none_of X G zb_sorted, PySem.W.mg_none_of X G zb_tuple⟩
  have d0 : Df K mg "_law_cell_at" (top 5) ["_law_script", "_law_k"] := df_mk X G a0 l0 e0 k0 fun _ _ _ _ _ _ us hl => match us, hl with | [_, _], _ => rfl
  have c0 : ∀ base : Heap, Cal l.prog w K mg base "_law_cell_at" 1 (m_cell_at_5ae90) := fun base => sim__law_cell_at T d0
  have d1 : Df K mg "_law_cells" (top 6) ["_law_script", "_law_start", "_law_most"] := df_mk X G a1 l1 e1 k1 fun _ _ _ _ _ _ us hl => match us, hl with | [_, _, _], _ => rfl
  have c1 : ∀ base : Heap, Cal l.prog w K mg base "_law_cells" 2 (m_cells_33ed8) := fun base => sim__law_cells T d1 (c0 base)
  have d2 : Df K mg "_law_parents" (top 9) ["_law_cells_here"] := df_mk X G a2 l2 e2 k2 fun _ _ _ _ _ _ us hl => match us, hl with | [_], _ => rfl
  have c2 : ∀ base : Heap, Cal l.prog w K mg base "_law_parents" 1 (m_parents_75466) := fun base => sim__law_parents T d2
  have d3 : Df K mg "_law_spelled" (top 7) ["_law_rest", "_law_long"] := df_mk X G a3 l3 e3 k3 fun _ _ _ _ _ _ us hl => match us, hl with | [_, _], _ => rfl
  have c3 : ∀ base : Heap, Cal l.prog w K mg base "_law_spelled" 1 (m_spelled_7a0ca) := fun base => sim__law_spelled T d3
  have d4 : Df K mg "_law_name" (top 8) ["_law_cell"] := df_mk X G a4 l4 e4 k4 fun _ _ _ _ _ _ us hl => match us, hl with | [_], _ => rfl
  have c4 : ∀ base : Heap, Cal l.prog w K mg base "_law_name" 2 (m_name_35a2d) := fun base => sim__law_name T d4 (c3 base)
  have d5 : Df K mg "_law_docs" (top 10) ["_law_cells_here", "_law_parents_here"] := df_mk X G a5 l5 e5 k5 fun _ _ _ _ _ _ us hl => match us, hl with | [_, _], _ => rfl
  have c5 : ∀ base : Heap, Cal l.prog w K mg base "_law_docs" 3 (m_docs_a9091) := fun base => sim__law_docs T d5 (c4 base)
  have d6 : Df K mg "_law_places" (top 11) ["_law_parents_here"] := df_mk X G a6 l6 e6 k6 fun _ _ _ _ _ _ us hl => match us, hl with | [_], _ => rfl
  have c6 : ∀ base : Heap, Cal l.prog w K mg base "_law_places" 1 (m_places_4e2eb) := fun base => sim__law_places T d6
  have d7 : Df K mg "_law_counts" (top 14) ["_law_parents_here"] := df_mk X G a7 l7 e7 k7 fun _ _ _ _ _ _ us hl => match us, hl with | [_], _ => rfl
  have c7 : ∀ base : Heap, Cal l.prog w K mg base "_law_counts" 1 (m_counts_299ff) := fun base => sim__law_counts T d7
  have d8 : Df K mg "places_of" (top 3) ["doc"] := df_mk X G a8 l8 e8 k8 fun _ _ _ _ _ _ us hl => match us, hl with | [_], _ => rfl
  have c8 : ∀ base : Heap, Cal l.prog w K mg base "places_of" 101 (m_places_of_1d612 100) := fun base => sim_places_of T d8 100
  have d9 : Df K mg "_law_number" (top 12) ["_law_found", "_law_due"] := df_mk X G a9 l9 e9 k9 fun _ _ _ _ _ _ us hl => match us, hl with | [_, _], _ => rfl
  have c9 : ∀ base : Heap, Cal l.prog w K mg base "_law_number" 1 (m_number_d6252) := fun base => sim__law_number T d9
  have d10 : Df K mg "_law_alike" (top 13) ["_law_told", "_law_due"] := df_mk X G a10 l10 e10 k10 fun _ _ _ _ _ _ us hl => match us, hl with | [_, _], _ => rfl
  have c10 : ∀ base : Heap, Cal l.prog w K mg base "_law_alike" 2 (m_alike_9d8a9) := fun base => sim__law_alike T d10 (c9 base)
  have d11 : Df K mg "size_of" (top 1) ["doc"] := df_mk X G a11 l11 e11 k11 fun _ _ _ _ _ _ us hl => match us, hl with | [_], _ => rfl
  have c11 : ∀ base : Heap, Cal l.prog w K mg base "size_of" 101 (m_size_of_efccc 100) := fun base => sim_size_of T d11 100
  have d12 : Df K mg "height_of" (top 2) ["doc"] := df_mk X G a12 l12 e12 k12 fun _ _ _ _ _ _ us hl => match us, hl with | [_], _ => rfl
  have c12 : ∀ base : Heap, Cal l.prog w K mg base "height_of" 101 (m_height_of_29386 100) := fun base => sim_height_of T d12 100
  have ea := hfa.symm.trans (PySem.W.mg_of X G a13)
  cases ea
  have F := fun_mk (st := top 15) l13 e13 k13
  exact ⟨PySem.W.fnOf "law" "law" (defArgs (top 15)) (defBody (top 15)) (defScope (top 15)) .none kV13 dc13 pm13 an13 cd13 ct13, fun s v => .of_eq rfl, fun base _ _ => sim_law T F (c1 base) (c2 base) (c5 base) (c6 base) (c7 base) (c8 base) (c10 base) (c9 base) (c12 base) (c11 base) (c0 base)⟩
end Sk03

open PySem PySem.W PyProof.Rows
set_option maxRecDepth 100000 in
set_option maxHeartbeats 0 in
theorem PySem.Challenge.cw_graftform_k03_places_counted_holds : PySem.Challenge.rw_graftform_k03_places_counted.Holds := by
  w_on; o_law; k_head; (case hw => w_witness2)
  k_fill
  refine Mi.law_end (l := PySem.Challenge.rw_graftform_k03_places_counted) (k := 102) (x := "_law_script") (F := Mi.m_law_2fde9) Mi.main_k03 rfl rfl ⟨rfl, by decide, by decide⟩ (fun w h Y => PySem.W.kIn_of Y) ?F
  case F =>
    intro w mg fa h KX G hmg
    refine' Sk03.all_mk KX G hmg ?a0 ?l0 ?e0 ?k0 ?a1 ?l1 ?e1 ?k1 ?a2 ?l2 ?e2 ?k2 ?a3 ?l3 ?e3 ?k3 ?a4 ?l4 ?e4 ?k4 ?a5 ?l5 ?e5 ?k5 ?a6 ?l6 ?e6 ?k6 ?a7 ?l7 ?e7 ?k7 ?a8 ?l8 ?e8 ?k8 ?a9 ?l9 ?e9 ?k9 ?a10 ?l10 ?e10 ?k10 ?a11 ?l11 ?e11 ?k11 ?a12 ?l12 ?e12 ?k12 ?a13 ?l13 ?e13 ?k13 ?zb_abs ?zb_bool ?zb_int ?zb_isinstance ?zb_len ?zb_list ?zb_max ?zb_min ?zb_range ?zb_reversed ?zb_sorted ?zb_tuple
    (case a0 => k_is)
    (case l0 => k_is)
    (case e0 => k_is)
    (case k0 => k_is)
    (case a1 => k_is)
    (case l1 => k_is)
    (case e1 => k_is)
    (case k1 => k_is)
    (case a2 => k_is)
    (case l2 => k_is)
    (case e2 => k_is)
    (case k2 => k_is)
    (case a3 => k_is)
    (case l3 => k_is)
    (case e3 => k_is)
    (case k3 => k_is)
    (case a4 => k_is)
    (case l4 => k_is)
    (case e4 => k_is)
    (case k4 => k_is)
    (case a5 => k_is)
    (case l5 => k_is)
    (case e5 => k_is)
    (case k5 => k_is)
    (case a6 => k_is)
    (case l6 => k_is)
    (case e6 => k_is)
    (case k6 => k_is)
    (case a7 => k_is)
    (case l7 => k_is)
    (case e7 => k_is)
    (case k7 => k_is)
    (case a8 => k_is)
    (case l8 => k_is)
    (case e8 => k_is)
    (case k8 => k_is)
    (case a9 => k_is)
    (case l9 => k_is)
    (case e9 => k_is)
    (case k9 => k_is)
    (case a10 => k_is)
    (case l10 => k_is)
    (case e10 => k_is)
    (case k10 => k_is)
    (case a11 => k_is)
    (case l11 => k_is)
    (case e11 => k_is)
    (case k11 => k_is)
    (case a12 => k_is)
    (case l12 => k_is)
    (case e12 => k_is)
    (case k12 => k_is)
    (case a13 => k_is)
    (case l13 => k_is)
    (case e13 => k_is)
    (case k13 => k_is)
    (case zb_abs => k_is)
    (case zb_bool => k_is)
    (case zb_int => k_is)
    (case zb_isinstance => k_is)
    (case zb_len => k_is)
    (case zb_list => k_is)
    (case zb_max => k_is)
    (case zb_min => k_is)
    (case zb_range => k_is)
    (case zb_reversed => k_is)
    (case zb_sorted => k_is)
    (case zb_tuple => k_is)

