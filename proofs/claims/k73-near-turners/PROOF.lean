import PyProof.Rows.All
import Wide.All
import OpenK.AllK
import Wide.FinOn
import HandS.ForMost
import HandS.Exc
import HandS.TryOnly
import HandS.ExcOwn
import HandS.WordsExc
import HandS.Wide
import HandS.WideBits
import HandS.EndBits
import HandS.IsInst
import HandS.TupAny
import HandS.Style
import HandS.RevRange
import HandS.Deep
import HandS.Strs
import HandS.Conv
import HandS.Flow
import HandS.DeepEq
import KE.KeyNested
import HandS.ExcInit
import HandS.ExcIs
import HandS.ExcField
import KE.KExcIs
import HandS.Iter
import HandS.TupMul
import HandS.Zip
import HandS.Defaults
import HandS.CallSlots
import HandS.Codes
import KE.KDictSum
import KE.SortData
import HandS.ExcValue
import HandS.Text
import HandS.SetFor
import HandS.TupSets
import KE.KDictPairs
import PyProof.Rows.TupTab
import HandS.More
import HandS.ClsMeth
import KE.KRevSl
import KE.DataMinMax
import KE.KIndexWalk
import PyProof.DictMoreH
import PyProof.Rows.RowBridgeK
import HandS.SetKeys
import KE.KDictCopyH
import PyProof.WalksMore
import PyProof.Rows.CallKwBuiltin
import HandS.StrMore
import KE.KDictDisplayH
import KE.GoesMore
import KE.KTurns
import KE.KEqDict
import KE.DataCmp
import KE.KDictWalk
import HandS.TupLen
import HandS.WordsDict
import PySem.Challenge.RW_graftform_k73_near_turners
set_option Elab.async false
set_option linter.all false
set_option maxRecDepth 100000
set_option maxHeartbeats 4000000
/-! Mir: each def of the program as a Lean function over plain values (tuples by value, lists, dicts, instances in a heap of their own, numbered), and the proof that the def does what the function says. -/
namespace Mi
open PySem L2

inductive D where
  | non | bl (b : Bool) | int (i : Int) | str (x : Str) | tup (l : List D) | ref (i : Nat) | xo (c f : Str) (v : D)
mutual
def D.dec : (a b : D) → Decidable (a = b)
  | .non, .non => .isTrue rfl
  | .non, .bl _ => .isFalse (fun e => nomatch e)
  | .non, .int _ => .isFalse (fun e => nomatch e)
  | .non, .str _ => .isFalse (fun e => nomatch e)
  | .non, .tup _ => .isFalse (fun e => nomatch e)
  | .non, .ref _ => .isFalse (fun e => nomatch e)
  | .bl _, .non => .isFalse (fun e => nomatch e)
  | .bl a, .bl b => if h : a = b then .isTrue (by rw [h]) else .isFalse (fun e => h (D.bl.inj e))
  | .bl _, .int _ => .isFalse (fun e => nomatch e)
  | .bl _, .str _ => .isFalse (fun e => nomatch e)
  | .bl _, .tup _ => .isFalse (fun e => nomatch e)
  | .bl _, .ref _ => .isFalse (fun e => nomatch e)
  | .int _, .non => .isFalse (fun e => nomatch e)
  | .int _, .bl _ => .isFalse (fun e => nomatch e)
  | .int a, .int b => if h : a = b then .isTrue (by rw [h]) else .isFalse (fun e => h (D.int.inj e))
  | .int _, .str _ => .isFalse (fun e => nomatch e)
  | .int _, .tup _ => .isFalse (fun e => nomatch e)
  | .int _, .ref _ => .isFalse (fun e => nomatch e)
  | .str _, .non => .isFalse (fun e => nomatch e)
  | .str _, .bl _ => .isFalse (fun e => nomatch e)
  | .str _, .int _ => .isFalse (fun e => nomatch e)
  | .str a, .str b => if h : a = b then .isTrue (by rw [h]) else .isFalse (fun e => h (D.str.inj e))
  | .str _, .tup _ => .isFalse (fun e => nomatch e)
  | .str _, .ref _ => .isFalse (fun e => nomatch e)
  | .tup _, .non => .isFalse (fun e => nomatch e)
  | .tup _, .bl _ => .isFalse (fun e => nomatch e)
  | .tup _, .int _ => .isFalse (fun e => nomatch e)
  | .tup _, .str _ => .isFalse (fun e => nomatch e)
  | .tup a, .tup b => match D.decs a b with
    | .isTrue h => .isTrue (by rw [h])
    | .isFalse h => .isFalse (fun e => h (D.tup.inj e))
  | .tup _, .ref _ => .isFalse (fun e => nomatch e)
  | .ref _, .non => .isFalse (fun e => nomatch e)
  | .ref _, .bl _ => .isFalse (fun e => nomatch e)
  | .ref _, .int _ => .isFalse (fun e => nomatch e)
  | .ref _, .str _ => .isFalse (fun e => nomatch e)
  | .ref _, .tup _ => .isFalse (fun e => nomatch e)
  | .ref a, .ref b => if h : a = b then .isTrue (by rw [h]) else .isFalse (fun e => h (D.ref.inj e))
  | .non, .xo _ _ _ => .isFalse (fun e => nomatch e)
  | .xo _ _ _, .non => .isFalse (fun e => nomatch e)
  | .bl _, .xo _ _ _ => .isFalse (fun e => nomatch e)
  | .xo _ _ _, .bl _ => .isFalse (fun e => nomatch e)
  | .int _, .xo _ _ _ => .isFalse (fun e => nomatch e)
  | .xo _ _ _, .int _ => .isFalse (fun e => nomatch e)
  | .str _, .xo _ _ _ => .isFalse (fun e => nomatch e)
  | .xo _ _ _, .str _ => .isFalse (fun e => nomatch e)
  | .tup _, .xo _ _ _ => .isFalse (fun e => nomatch e)
  | .xo _ _ _, .tup _ => .isFalse (fun e => nomatch e)
  | .ref _, .xo _ _ _ => .isFalse (fun e => nomatch e)
  | .xo _ _ _, .ref _ => .isFalse (fun e => nomatch e)
  | .xo c f v, .xo c' f' v' => match D.dec v v' with
    | .isTrue h => if k : c = c' ∧ f = f' then .isTrue (by rw [h, k.1, k.2]) else .isFalse (fun e => by cases e; exact k ⟨rfl, rfl⟩)
    | .isFalse h => .isFalse (fun e => by cases e; exact h rfl)
def D.decs : (a b : List D) → Decidable (a = b)
  | [], [] => .isTrue rfl
  | [], _ :: _ => .isFalse (fun e => nomatch e)
  | _ :: _, [] => .isFalse (fun e => nomatch e)
  | a :: r, b :: s => match D.dec a b, D.decs r s with
    | .isTrue h, .isTrue k => .isTrue (by rw [h, k])
    | .isFalse h, _ => .isFalse (fun e => h (List.cons.inj e).1)
    | _, .isFalse k => .isFalse (fun e => k (List.cons.inj e).2)
end
instance : DecidableEq D := D.dec

inductive MO where
  | lst (l : List D) | rol (l : List D) | dK (kvs : List (Key × D)) | ins (c : Str) (fs : List (Str × D)) | dN (kvs : List (NestedKey × D)) | fK (kvs : List (Key × D)) | dT (kvs : List (D × D)) | fT (kvs : List (D × D))
deriving DecidableEq

abbrev MH := List MO
abbrev Slots := List (Option D)

inductive R (α : Type) where
  | ok (a : α) (h : MH) | exc (x : Str) (fs : List (Str × D)) (h : MH) | bad

def R.bind {α β : Type} (r : R α) (f : α → MH → R β) : R β := match r with
  | .ok a h => f a h
  | .exc x fs h => .exc x fs h
  | .bad => .bad
/-- the written part, the classes by name -/
structure G where
  K : PySem.W.Frag
  cm : Str → Option Addr
  w : World

/-! ### values and the heap -/
/-- a tuple that is known to the object: it has no dict of its own -/
def Tk (K : PySem.W.Frag) (H : Hp) (p : Addr) (xs : List V) : Prop :=
  (∃ ob : Obj, ob.dict = none ∧ H p = some (.frz ob (.tup xs))) ∨ ∃ (ob : Obj) (ws : Array Value) (n : Nat), K.lookup p = some ob ∧ ob.cls = .type "tuple" ∧ ob.dict = none ∧ ob.data = .seq ws n ∧ ws.size ≤ sizeLine ∧ Vals xs ws.toList
theorem Tk.sq {K : PySem.W.Frag} {H : Hp} {p : Addr} {xs : List V} (h : Tk K H p xs) : SqT K H p xs := by
  rcases h with ⟨ob, _, h⟩ | ⟨ob, ws, n, h1, h2, _, h3⟩
  · exact .inl (.inr ⟨ob, h⟩)
  · exact .inr ⟨ob, ws, n, h1, h2, h3⟩
/-- an exception that is kept: its class, its dict -/
def XOk (C : Addr) (d : Option Addr) (a : Addr) : HO := .ext fun h => ∃ (oe : Obj) (vs : Array Value), h.get? a = some oe ∧ Zc (.ref C) d oe ∧ oe.data = .fields vs
def isX (p : Addr) (u : HO) : Prop := (∃ C d, u = XOk C d p) ∨ ∃ fs, u = .xd fs
mutual
inductive VR (g : G) (H : Hp) (μ : List Addr) : V → D → Prop
  | non : VR g H μ .non .non
  | bl (b : Bool) : VR g H μ (.bl b) (.bl b)
  | int (i : Int) : VR g H μ (.int i) (.int i)
  | str (x : Str) : VR g H μ (.str x) (.str x)
  | ref {p : Addr} {i : Nat} : μ[i]? = some p → VR g H μ (.ref p) (.ref i)
  | tup {p : Addr} {xs : List V} {ds : List D} : Tk g.K H p xs → VRs g H μ xs ds → VR g H μ (.ref p) (.tup ds)
  | xo {p C : Addr} {d : Option Addr} {c f : Str} {v : V} {dv : D} : H p = some (XOk C d p) → g.cm c = some C → ((f = Str.ofString "" ∧ d = none) ∨ ∃ dd fv, d = some dd ∧ H dd = some (.xd fv) ∧ fv.lookup f = some v) → VR g H μ v dv → VR g H μ (.ref p) (.xo c f dv)
inductive VRs (g : G) (H : Hp) (μ : List Addr) : List V → List D → Prop
  | nil : VRs g H μ [] []
  | cons {v : V} {d : D} {vs : List V} {ds : List D} : VR g H μ v d → VRs g H μ vs ds → VRs g H μ (v :: vs) (d :: ds)
end
mutual
/-- a thing as a key -/
def nkD : D → Option NestedKey
  | .non => some .none
  | .bl b => some (.num (if b = true then 1 else 0))
  | .int i => some (.num i)
  | .str x => some (.text x)
  | .tup l => (nkDs l).map NestedKey.tup
  | .ref _ => none
  | .xo _ _ _ => none
def nkDs : List D → Option (List NestedKey)
  | [] => some []
  | d :: l => match nkD d, nkDs l with
    | some k, some ks => some (k :: ks)
    | _, _ => none
end
/-- a dict whose keys are tuples -/
def DN (w : World) (a : Addr) (xs : List (NestedKey × Addr × Value)) : HO := .ext fun h => xs.length ≤ sizeLine ∧ (a == sysModules) = false ∧ ∃ o es ep, h.get? a = some o ∧ o.ExactDict ∧ o.data = .dict es ep ∧ es.toList = xs.map (fun x => ⟨x.1.hash w, .ref x.2.1, x.2.2⟩) ∧ (xs.map (·.1)).Nodup
inductive NR (g : G) (H : Hp) (μ : List Addr) : List (NestedKey × Addr × Value) → List (NestedKey × D) → Prop
  | nil : NR g H μ [] []
  | cons {k : NestedKey} {a : Addr} {u : Value} {e d : D} {v : V} {xs : List (NestedKey × Addr × Value)} {ds : List (NestedKey × D)} : VR g H μ (.ref a) e → nkD e = some k → k.depth ≤ 8 → RelV v u → VR g H μ v d → NR g H μ xs ds → NR g H μ ((k, a, u) :: xs) ((k, d) :: ds)
/-- a dict with tuple keys whose key objects are known -/
inductive TR (g : G) (H : Hp) (μ : List Addr) : List (NestedKey × Addr × Value) → List (D × D) → Prop
  | nil : TR g H μ [] []
  | cons {k : NestedKey} {a : Addr} {u : Value} {e d : D} {v : V} {xs : List (NestedKey × Addr × Value)} {ds : List (D × D)} : VR g H μ (.ref a) e → nkD e = some k → k.depth ≤ 8 → RelV v u → VR g H μ v d → TR g H μ xs ds → TR g H μ ((k, a, u) :: xs) ((e, d) :: ds)
inductive KR {κ : Type} (g : G) (H : Hp) (μ : List Addr) : List (κ × V) → List (κ × D) → Prop
  | nil : KR g H μ [] []
  | cons {k : κ} {v : V} {d : D} {vs : List (κ × V)} {ds : List (κ × D)} : VR g H μ v d → KR g H μ vs ds → KR g H μ ((k, v) :: vs) ((k, d) :: ds)
inductive SR (g : G) (H : Hp) (μ : List Addr) : List (Option V) → Slots → Prop
  | nil : SR g H μ [] []
  | no {o : Option V} {σ : List (Option V)} {ρ : Slots} : SR g H μ σ ρ → SR g H μ (o :: σ) (none :: ρ)
  | yes {v : V} {d : D} {σ : List (Option V)} {ρ : Slots} : VR g H μ v d → SR g H μ σ ρ → SR g H μ (some v :: σ) (some d :: ρ)

/-- a list that is only read -/
def Lk (K : PySem.W.Frag) (H : Hp) (a : Addr) (xs : List V) : Prop :=
  (∃ o, H a = some (.frz o (.lst xs))) ∨ ∃ (o : Obj) (its : Array Value) (n : Nat), K.lookup a = some o ∧ o.cls = .type "list" ∧ o.dict = none ∧ o.data = .seq its n ∧ its.size ≤ sizeLine ∧ Vals xs its.toList
theorem Lk.sq {K : PySem.W.Frag} {H : Hp} {a : Addr} {xs : List V} (h : Lk K H a xs) : SqL K H a xs := by
  rcases h with ⟨o, h⟩ | h
  · exact .inl (.inr ⟨o, h⟩)
  · exact .inr h

def OR (g : G) (H : Hp) (μ : List Addr) (p : Addr) : MO → Prop
  | .lst ds => ∃ xs, H p = some (.lst xs) ∧ VRs g H μ xs ds
  | .rol ds => ∃ xs, Lk g.K H p xs ∧ VRs g H μ xs ds
  | .dK kvs => ∃ kv, H p = some (.dK kv) ∧ KR g H μ kv kvs
  | .ins c fs => ∃ C dx fv, H p = some (.ins C dx fv) ∧ g.cm c = some C ∧ KR g H μ fv fs
  | .dN kvs => ∃ xs, H p = some (DN g.w p xs) ∧ NR g H μ xs kvs
  | .fK kvs => ∃ o kv, H p = some (.frz o (.dK kv)) ∧ KR g H μ kv kvs
  | .dT kvs => ∃ xs, H p = some (DN g.w p xs) ∧ TR g H μ xs kvs
  | .fT kvs => ∃ o xs, H p = some (.frz o (DN g.w p xs)) ∧ TR g H μ xs kvs
def isMut : MO → Bool
  | .rol _ => false
  | _ => true
structure HR (g : G) (H : Hp) (μ : List Addr) (h : MH) : Prop where
  len : μ.length = h.length
  ob : ∀ (i : Nat) (p : Addr) (o : MO), μ[i]? = some p → h[i]? = some o → OR g H μ p o
  nd : ∀ (i j : Nat) (p : Addr) (o u : MO), μ[i]? = some p → μ[j]? = some p → h[i]? = some o → h[j]? = some u → isMut o = true → isMut u = true → i = j

/-- what stands stands on: the tuples, the numbering -/
structure Mon (g : G) (H H' : Hp) (μ μ' : List Addr) : Prop where
  pre : μ <+: μ'
  tups : ∀ p xs, Tk g.K H p xs → Tk g.K H' p xs
  xs : ∀ p u, isX p u → H p = some u → H' p = some u
  fz : ∀ p w v, H p = some (.frz w v) → H' p = some (.frz w v)
section
variable {g : G} {H H1 H2 : Hp} {μ μ1 μ2 : List Addr}
theorem Mon.refl : Mon g H H μ μ := ⟨List.prefix_rfl, fun _ _ h => h, fun _ _ _ h => h, fun _ _ _ h => h⟩
theorem Mon.trans (a : Mon g H H1 μ μ1) (b : Mon g H1 H2 μ1 μ2) : Mon g H H2 μ μ2 := ⟨a.pre.trans b.pre, fun p xs h => b.tups p xs (a.tups p xs h), fun p u x h => b.xs p u x (a.xs p u x h), fun p w v h => b.fz p w v (a.fz p w v h)⟩
theorem Mon.ix (m : Mon g H H1 μ μ1) {i : Nat} {p : Addr} (h : μ[i]? = some p) : μ1[i]? = some p := by
  obtain ⟨t, rfl⟩ := m.pre
  rw [List.getElem?_append_left (List.getElem?_eq_some_iff.mp h).1]
  exact h
mutual
theorem VR.mono (m : Mon g H H1 μ μ1) : ∀ {v : V} {d : D}, VR g H μ v d → VR g H1 μ1 v d
  | _, _, .non => .non
  | _, _, .bl b => .bl b
  | _, _, .int i => .int i
  | _, _, .str x => .str x
  | _, _, .ref h => .ref (m.ix h)
  | _, _, .tup h hs => .tup (m.tups _ _ h) (VRs.mono m hs)
  | _, _, .xo h c f v => .xo (m.xs _ _ (.inl ⟨_, _, rfl⟩) h) c (by
      rcases f with f | ⟨dd, fv, e1, e2, e3⟩
      · exact .inl f
      · exact .inr ⟨dd, fv, e1, m.xs _ _ (.inr ⟨_, rfl⟩) e2, e3⟩) (VR.mono m v)
theorem VRs.mono (m : Mon g H H1 μ μ1) : ∀ {vs : List V} {ds : List D}, VRs g H μ vs ds → VRs g H1 μ1 vs ds
  | _, _, .nil => .nil
  | _, _, .cons a b => .cons (VR.mono m a) (VRs.mono m b)
end
theorem KR.mono {κ : Type} (m : Mon g H H1 μ μ1) : ∀ {vs : List (κ × V)} {ds : List (κ × D)}, KR g H μ vs ds → KR g H1 μ1 vs ds
  | _, _, .nil => .nil
  | _, _, .cons a b => .cons (a.mono m) (KR.mono m b)
theorem NR.mono (m : Mon g H H1 μ μ1) : ∀ {xs : List (NestedKey × Addr × Value)} {ds : List (NestedKey × D)}, NR g H μ xs ds → NR g H1 μ1 xs ds
  | _, _, .nil => .nil
  | _, _, .cons a e l r v b => .cons (a.mono m) e l r (v.mono m) (NR.mono m b)
theorem TR.mono (m : Mon g H H1 μ μ1) : ∀ {xs : List (NestedKey × Addr × Value)} {ds : List (D × D)}, TR g H μ xs ds → TR g H1 μ1 xs ds
  | _, _, .nil => .nil
  | _, _, .cons a e l r v b => .cons (a.mono m) e l r (v.mono m) (TR.mono m b)
theorem SR.mono (m : Mon g H H1 μ μ1) : ∀ {σ : List (Option V)} {ρ : Slots}, SR g H μ σ ρ → SR g H1 μ1 σ ρ
  | _, _, .nil => .nil
  | _, _, .no b => .no (SR.mono m b)
  | _, _, .yes a b => .yes (a.mono m) (SR.mono m b)
theorem VRs.length : ∀ {vs : List V} {ds : List D}, VRs g H μ vs ds → vs.length = ds.length
  | _, _, .nil => rfl
  | _, _, .cons _ b => by rw [List.length_cons, List.length_cons, VRs.length b]
theorem VRs.get : ∀ {vs : List V} {ds : List D} {i : Nat} {d : D}, VRs g H μ vs ds → ds[i]? = some d → ∃ v, vs[i]? = some v ∧ VR g H μ v d
  | _, _, _, _, .nil, e => by simp at e
  | _, _, 0, _, .cons a _, e => by
    simp only [List.getElem?_cons_zero, Option.some.injEq] at e
    subst e
    exact ⟨_, rfl, a⟩
  | _, _, i + 1, _, .cons _ b, e => by
    obtain ⟨v, h1, h2⟩ := VRs.get (i := i) b (by simpa using e)
    exact ⟨v, by simpa using h1, h2⟩
theorem VRs.append : ∀ {vs ws : List V} {ds es : List D}, VRs g H μ vs ds → VRs g H μ ws es → VRs g H μ (vs ++ ws) (ds ++ es)
  | _, _, _, _, .nil, h => h
  | _, _, _, _, .cons a b, h => .cons a (VRs.append b h)
theorem VRs.take (n : Nat) : ∀ {vs : List V} {ds : List D}, VRs g H μ vs ds → VRs g H μ (vs.take n) (ds.take n) := by
  induction n with
  | zero => intro vs ds _; simp only [List.take_zero]; exact .nil
  | succ n ih =>
    intro vs ds h
    cases h with
    | nil => simp only [List.take_nil]; exact .nil
    | cons a b => simp only [List.take_succ_cons]; exact .cons a (ih b)
theorem VRs.drop (n : Nat) : ∀ {vs : List V} {ds : List D}, VRs g H μ vs ds → VRs g H μ (vs.drop n) (ds.drop n) := by
  induction n with
  | zero => intro vs ds h; exact h
  | succ n ih =>
    intro vs ds h
    cases h with
    | nil => simp only [List.drop_nil]; exact .nil
    | cons a b => simp only [List.drop_succ_cons]; exact ih b
theorem VRs.set (i : Nat) {v : V} {d : D} (r : VR g H μ v d) : ∀ {vs : List V} {ds : List D}, VRs g H μ vs ds → VRs g H μ (vs.set i v) (ds.set i d) := by
  induction i with
  | zero =>
    intro vs ds h
    cases h with
    | nil => exact .nil
    | cons a b => exact .cons r b
  | succ n ih =>
    intro vs ds h
    cases h with
    | nil => exact .nil
    | cons a b => exact .cons a (ih b)
theorem VRs.reverse : ∀ {vs : List V} {ds : List D}, VRs g H μ vs ds → VRs g H μ vs.reverse ds.reverse
  | _, _, .nil => .nil
  | _, _, .cons a b => by
    rw [List.reverse_cons, List.reverse_cons]
    exact (VRs.reverse b).append (.cons a .nil)
theorem VRs.dropLast : ∀ {vs : List V} {ds : List D}, VRs g H μ vs ds → VRs g H μ vs.dropLast ds.dropLast
  | _, _, .nil => .nil
  | _, _, .cons a .nil => .nil
  | _, _, .cons a (.cons b c) => .cons a (VRs.dropLast (.cons b c))
theorem VRs.one {v : V} {d : D} (a : VR g H μ v d) : VRs g H μ [v] [d] := .cons a .nil
theorem SR.get : ∀ {σ : List (Option V)} {ρ : Slots} {i : Nat} {d : D}, SR g H μ σ ρ → ρ[i]? = some (some d) → ∃ v, σ[i]? = some (some v) ∧ VR g H μ v d
  | _, _, _, _, .nil, e => by simp at e
  | _, _, 0, _, .no _, e => by simp at e
  | _, _, 0, _, .yes a _, e => by
    simp only [List.getElem?_cons_zero, Option.some.injEq] at e
    subst e
    exact ⟨_, rfl, a⟩
  | _, _, i + 1, _, .no b, e => by
    obtain ⟨v, h1, h2⟩ := SR.get (i := i) b (by simpa using e)
    exact ⟨v, by simpa using h1, h2⟩
  | _, _, i + 1, _, .yes _ b, e => by
    obtain ⟨v, h1, h2⟩ := SR.get (i := i) b (by simpa using e)
    exact ⟨v, by simpa using h1, h2⟩
theorem SR.set (i : Nat) {v : V} {d : D} (r : VR g H μ v d) : ∀ {σ : List (Option V)} {ρ : Slots}, SR g H μ σ ρ → SR g H μ (σ.set i (some v)) (ρ.set i (some d)) := by
  induction i with
  | zero =>
    intro σ ρ h
    cases h with
    | nil => exact .nil
    | no b => exact .yes r b
    | yes a b => exact .yes r b
  | succ n ih =>
    intro σ ρ h
    cases h with
    | nil => exact .nil
    | no b => exact .no (ih b)
    | yes a b => exact .yes a (ih b)
theorem SR.unset (i : Nat) (o : Option V) : ∀ {σ : List (Option V)} {ρ : Slots}, SR g H μ σ ρ → SR g H μ (σ.set i o) (ρ.set i none) := by
  induction i with
  | zero =>
    intro σ ρ h
    cases h with
    | nil => exact .nil
    | no b => exact .no b
    | yes a b => exact .no b
  | succ n ih =>
    intro σ ρ h
    cases h with
    | nil => exact .nil
    | no b => exact .no (ih b)
    | yes a b => exact .yes a (ih b)
theorem SR.start : ∀ {vs : List V} {ds : List D} (n : Nat), VRs g H μ vs ds → SR g H μ (vs.map some ++ List.replicate n none) (ds.map some ++ List.replicate n none)
  | _, _, n, .nil => by
    show SR g H μ (List.replicate n none) (List.replicate n none)
    induction n with
    | zero => exact .nil
    | succ n ih => rw [List.replicate_succ]; exact .no ih
  | _, _, n, .cons a b => .yes a (SR.start n b)

/-! ### the heap changes -/
/-- a place that may be written: neither a tuple's nor a locked thing's -/
def Saf (H : Hp) (p : Addr) : Prop := ∀ u, H p = some u → ((∀ xs, u ≠ .tup xs) ∧ ¬ isX p u) ∧ ∀ o v, u ≠ .frz o v
theorem Saf.fresh {p : Addr} (h : H p = none) : Saf H p := fun u e => by rw [h] at e; cases e
theorem Saf.lst {p : Addr} {xs : List V} (h : H p = some (.lst xs)) : Saf H p := fun u e => by
  rw [h] at e
  cases e
  exact ⟨⟨fun _ z => (nomatch z), fun z => by rcases z with ⟨_, _, z⟩ | ⟨_, z⟩ <;> exact nomatch z⟩, fun _ _ z => (nomatch z)⟩
theorem Saf.dK {p : Addr} {xs : List (Key × V)} (h : H p = some (.dK xs)) : Saf H p := fun u e => by
  rw [h] at e
  cases e
  exact ⟨⟨fun _ z => (nomatch z), fun z => by rcases z with ⟨_, _, z⟩ | ⟨_, z⟩ <;> exact nomatch z⟩, fun _ _ z => (nomatch z)⟩
theorem Saf.ins {p C dx : Addr} {xs : List (Str × V)} (h : H p = some (.ins C dx xs)) : Saf H p := fun u e => by
  rw [h] at e
  cases e
  exact ⟨⟨fun _ z => (nomatch z), fun z => by rcases z with ⟨_, _, z⟩ | ⟨_, z⟩ <;> exact nomatch z⟩, fun _ _ z => (nomatch z)⟩
theorem dn_ne {w : World} {p C : Addr} {d : Option Addr} {xs : List (NestedKey × Addr × Value)} : DN w p xs ≠ XOk C d p := fun z => by
  unfold DN XOk at z
  injection z with z
  have hh : ∃ h : Heap, ∃ (oe : Obj) (vs : Array Value), h.get? p = some oe ∧ Zc (.ref C) d oe ∧ oe.data = .fields vs := by
    refine ⟨{ objs := Array.replicate (p + 1) { cls := .ref C, dict := d, data := .fields #[] } }, { cls := .ref C, dict := d, data := .fields #[] }, #[], ?_, ?_, rfl⟩
    · simp [Heap.get?]
    · exact ⟨rfl, rfl⟩
  obtain ⟨h, oe, vs, h1, h2, h3⟩ := hh
  have z2 := congrFun z h
  obtain ⟨_, _, o, es, ep, e1, _, e3, _⟩ := z2.mpr ⟨oe, vs, h1, h2, h3⟩
  rw [h1] at e1
  cases e1
  rw [h3] at e3
  cases e3
theorem Saf.dN {p : Addr} {w : World} {xs : List (NestedKey × Addr × Value)} (h : H p = some (DN w p xs)) : Saf H p := fun u e => by
  rw [h] at e
  cases e
  exact ⟨⟨fun _ z => (nomatch z), fun z => by
    rcases z with ⟨_, _, z⟩ | ⟨_, z⟩
    · exact dn_ne z
    · exact nomatch z⟩, fun _ _ z => (nomatch z)⟩
theorem Saf.mon {p : Addr} {o : HO} (s : Saf H p) : Mon g H (upd H p o) μ μ := ⟨List.prefix_rfl, fun q xs h => by
  rcases h with ⟨u, hu, h⟩ | h
  · refine .inl ⟨u, hu, ?_⟩
    rw [upd_ne]
    · exact h
    · rintro rfl; exact (s _ h).2 u _ rfl
  · exact .inr h, fun q u x h => by
    rw [upd_ne]
    · exact h
    · rintro rfl; exact (s _ h).1.2 x, fun q w v h => by
    rw [upd_ne]
    · exact h
    · rintro rfl; exact (s _ h).2 w v rfl⟩
theorem OR.mono_at {p : Addr} {o : MO} (m : Mon g H H1 μ μ1) (k : ∀ u, H p = some u → H1 p = some u) (h : OR g H μ p o) : OR g H1 μ1 p o := by
  cases o with
  | lst ds => obtain ⟨xs, a, b⟩ := h; exact ⟨xs, k _ a, b.mono m⟩
  | rol ds =>
    obtain ⟨xs, a, b⟩ := h
    refine ⟨xs, ?_, b.mono m⟩
    rcases a with ⟨u, a⟩ | a
    · exact .inl ⟨u, k _ a⟩
    · exact .inr a
  | dK kvs => obtain ⟨xs, a, b⟩ := h; exact ⟨xs, k _ a, b.mono m⟩
  | ins c fs => obtain ⟨C, dx, xs, a, c', b⟩ := h; exact ⟨C, dx, xs, k _ a, c', b.mono m⟩
  | dN kvs => obtain ⟨xs, a, b⟩ := h; exact ⟨xs, k _ a, b.mono m⟩
  | fK kvs => obtain ⟨u, xs, a, b⟩ := h; exact ⟨u, xs, k _ a, b.mono m⟩
  | dT kvs => obtain ⟨xs, a, b⟩ := h; exact ⟨xs, k _ a, b.mono m⟩
  | fT kvs => obtain ⟨u, xs, a, b⟩ := h; exact ⟨u, xs, k _ a, b.mono m⟩
theorem OR.mut {p : Addr} {o : MO} (h : OR g H μ p o) (hm : isMut o = true) : ∃ u, H p = some u := by
  cases o with
  | lst ds => obtain ⟨xs, a, b⟩ := h; exact ⟨_, a⟩
  | rol ds => cases hm
  | dK kvs => obtain ⟨xs, a, b⟩ := h; exact ⟨_, a⟩
  | ins c fs => obtain ⟨C, dx, xs, a, c', b⟩ := h; exact ⟨_, a⟩
  | dN kvs => obtain ⟨xs, a, b⟩ := h; exact ⟨_, a⟩
  | fK kvs => obtain ⟨u, xs, a, b⟩ := h; exact ⟨_, a⟩
  | dT kvs => obtain ⟨xs, a, b⟩ := h; exact ⟨_, a⟩
  | fT kvs => obtain ⟨u, xs, a, b⟩ := h; exact ⟨_, a⟩
/-- a new thing is laid that is no cell of h -/
theorem HR.laid {h : MH} {p : Addr} {o : HO} (r : HR g H μ h) (hp : H p = none) : HR g (upd H p o) μ h :=
  ⟨r.len, fun i q u hi hu => (r.ob i q u hi hu).mono_at (Saf.fresh hp).mon fun w e => by rw [upd_ne (ne_of_none e hp)]; exact e, r.nd⟩
/-- a new cell -/
theorem HR.push {h : MH} {p : Addr} {o : HO} {u : MO} (r : HR g H μ h) (hp : H p = none) (hu : OR g (upd H p o) (μ ++ [p]) p u) : HR g (upd H p o) (μ ++ [p]) (h ++ [u]) := by
  have m : Mon g H (upd H p o) μ (μ ++ [p]) := ⟨List.prefix_append _ _, (Saf.fresh hp : Saf H p).mon (g := g) (μ := μ) (o := o) |>.tups, (Saf.fresh hp : Saf H p).mon (g := g) (μ := μ) (o := o) |>.xs, (Saf.fresh hp : Saf H p).mon (g := g) (μ := μ) (o := o) |>.fz⟩
  have key : ∀ (i : Nat) (q : Addr), (μ ++ [p])[i]? = some q → (i < μ.length ∧ μ[i]? = some q) ∨ (i = μ.length ∧ q = p) := fun i q e => by
    by_cases hi : i < μ.length
    · rw [List.getElem?_append_left hi] at e; exact .inl ⟨hi, e⟩
    · rw [List.getElem?_append_right (by omega)] at e
      have : i - μ.length = 0 := by
        have := (List.getElem?_eq_some_iff.mp e).1
        simp at this; omega
      rw [this] at e
      simp at e
      exact .inr ⟨by omega, e.symm⟩
  have keyh : ∀ (i : Nat) (w : MO), (h ++ [u])[i]? = some w → (i < h.length ∧ h[i]? = some w) ∨ (i = h.length ∧ w = u) := fun i w e => by
    by_cases hi : i < h.length
    · rw [List.getElem?_append_left hi] at e; exact .inl ⟨hi, e⟩
    · rw [List.getElem?_append_right (by omega)] at e
      have : i - h.length = 0 := by
        have := (List.getElem?_eq_some_iff.mp e).1
        simp at this; omega
      rw [this] at e
      simp at e
      exact .inr ⟨by omega, e.symm⟩
  have l := r.len
  refine ⟨by simp [l], fun i q w hi hw => ?_, fun i j q w v hi hj hw hv m1 m2 => ?_⟩
  · rcases key i q hi with ⟨a, b⟩ | ⟨a, b⟩
    · rcases keyh i w hw with ⟨c, d⟩ | ⟨c, d⟩
      · exact (r.ob i q w b d).mono_at m fun x e => by rw [upd_ne (ne_of_none e hp)]; exact e
      · omega
    · rcases keyh i w hw with ⟨c, d⟩ | ⟨c, d⟩
      · omega
      · subst b d; exact hu
  · rcases key i q hi with ⟨a, b⟩ | ⟨a, b⟩ <;> rcases key j q hj with ⟨a', b'⟩ | ⟨a', b'⟩
    · rcases keyh i w hw with ⟨c, d⟩ | ⟨c, d⟩
      · rcases keyh j v hv with ⟨c', d'⟩ | ⟨c', d'⟩
        · exact r.nd i j q w v b b' d d' m1 m2
        · omega
      · omega
    · rcases keyh i w hw with ⟨c, d⟩ | ⟨c, d⟩
      · obtain ⟨x, e⟩ := (r.ob i q w b d).mut m1
        subst b'
        rw [hp] at e; cases e
      · omega
    · rcases keyh j v hv with ⟨c, d⟩ | ⟨c, d⟩
      · obtain ⟨x, e⟩ := (r.ob j q v b' d).mut m2
        subst b
        rw [hp] at e; cases e
      · omega
    · omega
/-- a cell is written -/
theorem HR.write {h : MH} {i : Nat} {p : Addr} {o : HO} {u w : MO} (r : HR g H μ h) (hi : μ[i]? = some p) (hw : h[i]? = some w) (mw : isMut w = true) (s : Saf H p) (mu : isMut u = true) (hu : OR g (upd H p o) μ p u) : HR g (upd H p o) μ (h.set i u) := by
  have m : Mon g H (upd H p o) μ μ := s.mon
  have hlt : i < h.length := (List.getElem?_eq_some_iff.mp hw).1
  refine ⟨by rw [List.length_set]; exact r.len, fun j q v hj hv => ?_, fun j k q v x hj hk hv hx m1 m2 => ?_⟩
  · by_cases e : i = j
    · subst e
      rw [List.getElem?_set_self hlt] at hv
      rw [hi] at hj
      cases hj; cases hv
      exact hu
    · rw [List.getElem?_set_ne e] at hv
      have old := r.ob j q v hj hv
      cases mv : isMut v with
      | true =>
        refine old.mono_at m fun x ex => ?_
        rw [upd_ne]
        · exact ex
        · rintro rfl; exact e (r.nd i j q w v hi hj hw hv mw mv)
      | false =>
        cases v with
        | rol ds =>
          obtain ⟨xs, a, b⟩ := old
          refine ⟨xs, ?_, b.mono m⟩
          rcases a with ⟨u', a⟩ | a
          · refine .inl ⟨u', ?_⟩
            rw [upd_ne]
            · exact a
            · rintro rfl; exact (s _ a).2 _ _ rfl
          · exact .inr a
        | lst ds => cases mv
        | dK kvs => cases mv
        | ins c fs => cases mv
        | dN kvs => cases mv
        | fK kvs => cases mv
        | dT kvs => cases mv
        | fT kvs => cases mv
  · have key : ∀ (j : Nat) (v : MO), (h.set i u)[j]? = some v → isMut v = true → ∃ v', h[j]? = some v' ∧ isMut v' = true := fun j v hv mv => by
      by_cases e : i = j
      · subst e; exact ⟨w, hw, mw⟩
      · rw [List.getElem?_set_ne e] at hv; exact ⟨v, hv, mv⟩
    obtain ⟨v', hv', mv'⟩ := key j v hv m1
    obtain ⟨x', hx', mx'⟩ := key k x hx m2
    exact r.nd j k q v' x' hj hk hv' hx' mv' mx'
end

/-! ### rules that lay tuples, the new one known to the object -/
section
variable {X : Cx} {es : List Expr} {t : TA} {pos : Pos}
def tTupF (t : TA) : TE := fun σ H Q => t σ H fun xs H1 => xs.length ≤ sizeLine ∧ ∀ (p : Addr) (ob : Obj), H1 p = none → ob.dict = none → Q (.ref p) (upd H1 p (.frz ob (.tup xs)))
theorem pe_tupF {x1} (h : PA X es t) : PE X (.Tuple es x1 pos) (tTupF t) := by
  refine ⟨fun pins s σ H Q I hq => ?_⟩
  refine wpAny_Tuple_spliced (thn (h.run pos pins s σ H _ I hq) fun us s1 ⟨xs, H1, I1, rv, zl, q⟩ => ⟨by rw [← rv.length]; exact zl, ?_⟩)
  have new : H1 s1.heap.objs.size = none := I1.hok.fresh (Nat.le_refl _)
  refine ⟨.ref s1.heap.objs.size, upd H1 s1.heap.objs.size (.frz { cls := .type "tuple", data := .seq us.toArray } (.tup xs)), I1.laid (t' := s1.toks) (fun b u e => Heap.get?_push_of_some _ e) (Nat.le_refl _) ?_, rfl, q _ _ new rfl⟩
  exact ⟨Heap.get?_push_size _ rfl, zl, us, rv, PyProof.Rows.IsTup.new _ _⟩
def rTupF (K : PySem.W.Frag) : List V → Hp → VK → Prop := fun xs H Q => ∃ p ys, xs = [.ref p] ∧ ((SqL K H p ys ∧ ∀ (l : Addr) (ob : Obj), H l = none → ob.dict = none → Q (.ref l) (upd H l (.frz ob (.tup ys)))) ∨ (SqT K H p ys ∧ Q (.ref p) H))
theorem call_tupF : CallR X (.type "tuple") (rTupF X.K) := by
  intro pins s σ H xs us Q I rr hh
  obtain ⟨p, ys, rfl, hh⟩ := hh
  rcases hh with ⟨hq, q⟩ | ⟨hq, q⟩
  · obtain ⟨u, rfl, rx⟩ := vals1 rr
    cases rx
    obtain ⟨its, rv, pl, zl⟩ := I.list hq
    have hlen := rv.length
    refine PySem.call_tuple_list pl.isList (fun h' kp => ?_) (by simp only [List.size_toArray]; omega)
    have I1 : Inv X pins σ H { s with heap := h' } := I.kept (t' := s.toks) kp
    refine ⟨.ref h'.objs.size, upd H h'.objs.size (.frz { cls := .type "tuple", data := .seq its.toArray } (.tup ys)), ?_, rfl, q _ _ (I1.hok.fresh (Nat.le_refl _)) rfl⟩
    exact I1.laid (t' := s.toks) (fun b o e => Heap.get?_push_of_some _ e) (Nat.le_refl _) ⟨Heap.get?_push_size _ rfl, zl, its, rv, PyProof.Rows.IsTup.new _ _⟩
  · exact call_tuple_of pins s σ H _ us Q I rr ⟨p, ys, rfl, .inr ⟨hq, q⟩⟩
def rCatF (K : PySem.W.Frag) : R2 := fun x y H Q => ∃ a b xs ys, x = .ref a ∧ y = .ref b ∧ SqT K H a xs ∧ SqT K H b ys ∧ xs.length + ys.length ≤ sizeLine ∧
  (xs = [] → Q (.ref b) H) ∧ (xs ≠ [] → ys = [] → Q (.ref a) H) ∧ (xs ≠ [] → ys ≠ [] → ∀ (p : Addr) (ob : Obj), H p = none → ob.dict = none → Q (.ref p) (upd H p (.frz ob (.tup (xs ++ ys)))))
theorem op_catF : OpR X (binaryOp .Add) (rCatF X.K) := by
  intro pins s σ H x y v u Q I rx ry hh
  obtain ⟨a, b, xs, ys, rfl, rfl, ha, hb, zl, q0, q1, q2⟩ := hh
  cases rx
  cases ry
  obtain ⟨ws1, r1, p1, _⟩ := I.tuple ha
  obtain ⟨ws2, r2, p2, _⟩ := I.tuple hb
  by_cases hx : xs = []
  · subst hx
    cases r1
    exact cat_tup0 p1 p2 ⟨.ref b, H, I, rfl, q0 rfl⟩
  · refine HT.cat_tup p1 p2 (fun z => hx (r1.nil_iff.mp z)) (fun z => ⟨.ref a, H, I, rfl, q1 hx (r2.nil_iff.mp z)⟩) (fun z => ?_) (by rw [← r1.length, ← r2.length]; exact zl)
    refine ⟨.ref s.heap.objs.size, upd H s.heap.objs.size (.frz { cls := .type "tuple", data := .seq (ws1 ++ ws2).toArray } (.tup (xs ++ ys))), ?_, rfl, q2 hx (fun w => z (r2.nil_iff.mpr w)) _ _ (I.hok.fresh (Nat.le_refl _)) rfl⟩
    exact I.laid (t' := s.toks) (fun b ob e => Heap.get?_push_of_some _ e) (Nat.le_refl _) ⟨Heap.get?_push_size _ rfl, by rw [List.length_append]; exact zl, _, r1.append r2, PyProof.Rows.IsTup.new _ _⟩
def rSlF (K : PySem.W.Frag) : V → Option Int → Option Int → Hp → VK → Prop := fun x lo hi H Q => ∃ a xs, x = .ref a ∧ SqT K H a xs ∧
  (HT.sIx xs.length 0 lo = 0 ∧ HT.sIx xs.length xs.length hi = xs.length → Q (.ref a) H) ∧ (¬ (HT.sIx xs.length 0 lo = 0 ∧ HT.sIx xs.length xs.length hi = xs.length) → ∀ (p : Addr) (ob : Obj), H p = none → ob.dict = none → Q (.ref p) (upd H p (.frz ob (.tup (cutV xs lo hi)))))
theorem sl_tupF : SlR X (rSlF X.K) := by
  intro pins s σ H x v vl vu lo hi sl Q I rx hs pl pu hh
  obtain ⟨a, xs, rfl, hx, q1, q2⟩ := hh
  by_cases hw : HT.sIx xs.length 0 lo = 0 ∧ HT.sIx xs.length xs.length hi = xs.length
  · exact sl_tupA pins s σ H _ v vl vu lo hi sl Q I rx hs pl pu ⟨a, xs, rfl, hx, q1, fun z => absurd hw z⟩
  · cases rx
    obtain ⟨ws, rv, ht, zl⟩ := I.tuple hx
    have el : ws.toArray.size = xs.length := by rw [List.size_toArray]; exact rv.length.symm
    refine ⟨"tuple", _, PyProof.Rows.slot_tuple_getitem.lookup, ht.typeIs, ?_⟩
    refine HT.getItem_tuple_cut ht hs pl pu (by rw [el]; exact hw) ?_ (by rw [el]; exact zl)
    rw [el]
    refine ⟨.ref s.heap.objs.size, upd H s.heap.objs.size (.frz { cls := .type "tuple", data := .seq ((ws.drop (HT.sIx xs.length 0 lo)).take (HT.sIx xs.length xs.length hi - HT.sIx xs.length 0 lo)).toArray } (.tup (cutV xs lo hi))), ?_, rfl, q2 hw _ _ (I.hok.fresh (Nat.le_refl _)) rfl⟩
    exact I.laid (t' := s.toks) (fun b ob e => Heap.get?_push_of_some _ e) (Nat.le_refl _) ⟨Heap.get?_push_size _ rfl, Nat.le_trans (cutV_length xs lo hi) zl, _, (rv.drop _).take _, PyProof.Rows.IsTup.new _ _⟩
end
end Mi
namespace Mi
open PySem L2

/-! ### what is wanted behind -/
/-- an exception of the class named x with these fields -/
def XR (g : G) (H : Hp) (μ : List Addr) (cls : Value) (d : Option Addr) (x : Str) (fs : List (Str × D)) : Prop :=
  ∃ C, cls = .ref C ∧ g.cm x = some C ∧ ((fs = [] ∧ d = none) ∨ ∃ dd fv, fs ≠ [] ∧ d = some dd ∧ H dd = some (.xd fv) ∧ KR g H μ fv fs)
def Bk {α β : Type} (rel : Hp → List Addr → β → α → Prop) (g : G) (H : Hp) (μ : List Addr) (r : R α) (Q : β → Hp → Prop) (W : XK) : Prop := match r with
  | .ok a h' => ∀ b H' μ', Mon g H H' μ μ' → HR g H' μ' h' → rel H' μ' b a → Q b H'
  | .exc x fs h' => ∀ cls d H' μ', Mon g H H' μ μ' → HR g H' μ' h' → XR g H' μ' cls d x fs → W cls d H'
  | .bad => False
abbrev eqR : Hp → List Addr → Bool → Bool → Prop := fun _ _ b a => b = a
abbrev opR : Hp → List Addr → Option Int → Option Int → Prop := fun _ _ b a => b = a
section
variable {g : G} {H H1 : Hp} {μ μ1 : List Addr} {α α' β β' : Type} {rel : Hp → List Addr → β → α → Prop} {rel' : Hp → List Addr → β' → α' → Prop}
theorem Bk.mono {r : R α} {Q : β → Hp → Prop} {W : XK} (m : Mon g H H1 μ μ1) (h : Bk rel g H μ r Q W) : Bk rel g H1 μ1 r Q W := by
  cases r with
  | ok a h' => exact fun b H' μ' m' => h b H' μ' (m.trans m')
  | exc x fs h' => exact fun cls d H' μ' m' => h cls d H' μ' (m.trans m')
  | bad => exact h
theorem Bk.bind {r : R α} {f : α → MH → R α'} {Q : β → Hp → Prop} {Q' : β' → Hp → Prop} {W : XK} (hb : Bk rel' g H μ (r.bind f) Q' W)
    (k : ∀ a h1 b H1 μ1, r = .ok a h1 → Mon g H H1 μ μ1 → HR g H1 μ1 h1 → rel H1 μ1 b a → Bk rel' g H1 μ1 (f a h1) Q' W → Q b H1) : Bk rel g H μ r Q W := by
  cases r with
  | ok a h' => exact fun b H' μ' m hr hv => k a h' b H' μ' rfl m hr hv (Bk.mono m hb)
  | exc x fs h' => exact hb
  | bad => exact hb
end

abbrev ME := Slots → MH → R D
abbrev MT := Slots → MH → R Bool
abbrev MA := Slots → MH → R (List D)
abbrev MP := Slots → MH → R (Option Int)
def tX {α β : Type} (rel : G → Hp → List Addr → β → α → Prop) (g : G) (W : WX) (m : Slots → MH → R α) : St → Hp → (β → Hp → Prop) → Prop := fun σ H Q =>
  ∃ ρ h μ, SR g H μ σ ρ ∧ HR g H μ h ∧ Bk (rel g) g H μ (m ρ h) Q (fun c d H' => W c d σ H')
abbrev tE (g : G) (W : WX) (m : ME) : TE := tX VR g W m
abbrev tT (g : G) (W : WX) (m : MT) : TT := tX (fun _ => eqR) g W m
abbrev tA (g : G) (W : WX) (m : MA) : TA := tX VRs g W m
abbrev tP (g : G) (W : WX) (m : MP) : TO := tX (fun _ => opR) g W m

inductive Out where
  | nx (ρ : Slots) (h : MH) | rt (d : D) (h : MH) | bk (ρ : Slots) (h : MH) | ct (ρ : Slots) (h : MH) | exc (x : Str) (fs : List (Str × D)) (ρ : Slots) (h : MH) | bad
abbrev MS := Slots → MH → Out
def BkS (g : G) (H : Hp) (μ : List Addr) (o : Out) (E : Ends) (W : WX) : Prop := match o with
  | .nx ρ h => ∀ σ' H' μ', Mon g H H' μ μ' → SR g H' μ' σ' ρ → HR g H' μ' h → E.nx σ' H'
  | .rt d h => ∀ v H' μ', Mon g H H' μ μ' → HR g H' μ' h → VR g H' μ' v d → E.rt v H'
  | .bk ρ h => ∀ σ' H' μ', Mon g H H' μ μ' → SR g H' μ' σ' ρ → HR g H' μ' h → E.bk σ' H'
  | .ct ρ h => ∀ σ' H' μ', Mon g H H' μ μ' → SR g H' μ' σ' ρ → HR g H' μ' h → E.ct σ' H'
  | .exc x fs ρ h => ∀ cls d σ' H' μ', Mon g H H' μ μ' → SR g H' μ' σ' ρ → HR g H' μ' h → XR g H' μ' cls d x fs → W cls d σ' H'
  | .bad => False
theorem BkS.mono {g : G} {H H1 : Hp} {μ μ1 : List Addr} {o : Out} {E : Ends} {W : WX} (m : Mon g H H1 μ μ1) (h : BkS g H μ o E W) : BkS g H1 μ1 o E W := by
  cases o with
  | nx ρ h' => exact fun σ' H' μ' m' => h σ' H' μ' (m.trans m')
  | rt d h' => exact fun v H' μ' m' => h v H' μ' (m.trans m')
  | bk ρ h' => exact fun σ' H' μ' m' => h σ' H' μ' (m.trans m')
  | ct ρ h' => exact fun σ' H' μ' m' => h σ' H' μ' (m.trans m')
  | exc x fs ρ h' => exact fun cls d σ' H' μ' m' => h cls d σ' H' μ' (m.trans m')
  | bad => exact h
def tS (g : G) (W : WX) (m : MS) : TS := fun E σ H => ∃ ρ h μ, SR g H μ σ ρ ∧ HR g H μ h ∧ BkS g H μ (m ρ h) E W

/-- an expression's end within a statement -/
def R.out {α : Type} (r : R α) (ρ : Slots) (k : α → MH → Out) : Out := match r with
  | .ok a h => k a h
  | .exc x fs h => .exc x fs ρ h
  | .bad => .bad
section
variable {g : G} {W : WX} {α β α' β' : Type} {rel : G → Hp → List Addr → β → α → Prop} {rel' : G → Hp → List Addr → β' → α' → Prop} {σ : St} {H : Hp} {μ : List Addr} {ρ : Slots} {h : MH}
/-- one part is read; what follows it -/
theorem step {ma : Slots → MH → R α} {f : α → MH → R α'} {Q : β → Hp → Prop} {Q' : β' → Hp → Prop} (sr : SR g H μ σ ρ) (hr : HR g H μ h) (hb : Bk (rel' g) g H μ ((ma ρ h).bind f) Q' (fun c d H' => W c d σ H'))
    (k : ∀ b a h1 H1 μ1, Mon g H H1 μ μ1 → SR g H1 μ1 σ ρ → HR g H1 μ1 h1 → rel g H1 μ1 b a → Bk (rel' g) g H1 μ1 (f a h1) Q' (fun c d H' => W c d σ H') → Q b H1) : tX rel g W ma σ H Q :=
  ⟨ρ, h, μ, sr, hr, Bk.bind hb fun a h1 b H1 μ1 _ m hr1 hv bk => k b a h1 H1 μ1 m (sr.mono m) hr1 hv bk⟩
theorem stepS {ma : Slots → MH → R α} {f : α → MH → Out} {Q : β → Hp → Prop} {E : Ends} (sr : SR g H μ σ ρ) (hr : HR g H μ h) (hb : BkS g H μ ((ma ρ h).out ρ f) E W)
    (k : ∀ b a h1 H1 μ1, Mon g H H1 μ μ1 → SR g H1 μ1 σ ρ → HR g H1 μ1 h1 → rel g H1 μ1 b a → BkS g H1 μ1 (f a h1) E W → Q b H1) : tX rel g W ma σ H Q := by
  refine ⟨ρ, h, μ, sr, hr, ?_⟩
  cases e : ma ρ h with
  | ok a h' =>
    rw [e] at hb
    exact fun b H' μ' m hr' hv => k b a h' H' μ' m (sr.mono m) hr' hv (BkS.mono m hb)
  | exc x fs h' =>
    rw [e] at hb
    exact fun cls d H' μ' m hr' hx => hb cls d σ H' μ' m (sr.mono m) hr' hx
  | bad =>
    rw [e] at hb
    exact hb
end

/-! ### the judgements are monotone -/
section
variable {X : Cx}
theorem pe_mono {e : Expr} {t t' : TE} (h : PE X e t) (hm : ∀ σ H Q, t' σ H Q → t σ H Q) : PE X e t' := ⟨fun pins s σ H Q I q => h.run pins s σ H Q I (hm σ H Q q)⟩
theorem pt_mono {e : Expr} {t t' : TT} (h : PT X e t) (hm : ∀ σ H Q, t' σ H Q → t σ H Q) : PT X e t' := ⟨fun pins s σ H Q I q => h.run pins s σ H Q I (hm σ H Q q)⟩
theorem pw_mono {e : Expr} {t t' : TT} (h : PW X e t) (hm : ∀ σ H Q, t' σ H Q → t σ H Q) : PW X e t' := ⟨fun wh pins s σ H Q I q => h.run wh pins s σ H Q I (hm σ H Q q)⟩
theorem pa_mono {es : List Expr} {t t' : TA} (h : PA X es t) (hm : ∀ σ H Q, t' σ H Q → t σ H Q) : PA X es t' := ⟨fun pos pins s σ H Q I q => h.run pos pins s σ H Q I (hm σ H Q q)⟩
theorem ps_mono {st : Stmt} {t t' : TS} (h : PS X st t) (hm : ∀ E σ H, t' E σ H → t E σ H) : PS X st t' := ⟨fun pins s σ H E I q => h.run pins s σ H E I (hm E σ H q)⟩
theorem pss_mono {st : List Stmt} {t t' : TS} (h : PSs X st t) (hm : ∀ E σ H, t' E σ H → t E σ H) : PSs X st t' := ⟨fun pins s σ H E I q => h.run pins s σ H E I (hm E σ H q)⟩
end

/-! ### plain parts -/
def mVar (i : Nat) : ME := fun ρ h => match ρ[i]? with
  | some (some d) => .ok d h
  | _ => .bad
def mC (d : D) : ME := fun _ h => .ok d h
def mBin (f : D → D → MH → R D) (a b : ME) : ME := fun ρ h => (a ρ h).bind fun x h1 => (b ρ h1).bind fun y h2 => f x y h2
def mUn (f : D → MH → R D) (a : ME) : ME := fun ρ h => (a ρ h).bind fun x h1 => f x h1
def mNil : MA := fun _ h => .ok [] h
def mCons (a : ME) (r : MA) : MA := fun ρ h => (a ρ h).bind fun x h1 => (r ρ h1).bind fun xs h2 => .ok (x :: xs) h2
def mTup (a : MA) : ME := fun ρ h => (a ρ h).bind fun xs h1 => if xs.length ≤ 1000000 then .ok (.tup xs) h1 else .bad
def mLst (a : MA) : ME := fun ρ h => (a ρ h).bind fun xs h1 => if xs.length ≤ 1000000 then .ok (.ref h1.length) (h1 ++ [.lst xs]) else .bad
def mCall (F : List D → MH → R D) (a : MA) : ME := fun ρ h => (a ρ h).bind fun xs h1 => F xs h1

/-- an operation by values -/
def S2 (g : G) (r : R2) (f : D → D → MH → R D) : Prop := ∀ (H : Hp) (μ : List Addr) (h : MH) (x y : V) (a b : D) (Q : VK) (W : XK), HR g H μ h → VR g H μ x a → VR g H μ y b → Bk (VR g) g H μ (f a b h) Q W → r x y H Q
def S1 (g : G) (r : V → Hp → VK → Prop) (f : D → MH → R D) : Prop := ∀ (H : Hp) (μ : List Addr) (h : MH) (x : V) (a : D) (Q : VK) (W : XK), HR g H μ h → VR g H μ x a → Bk (VR g) g H μ (f a h) Q W → r x H Q
def SN (g : G) (r : List V → Hp → VK → Prop) (f : List D → MH → R D) : Prop := ∀ (H : Hp) (μ : List Addr) (h : MH) (xs : List V) (ds : List D) (Q : VK) (W : XK), HR g H μ h → VRs g H μ xs ds → Bk (VR g) g H μ (f ds h) Q W → r xs H Q
def SM (g : G) (r : V → List V → Hp → VK → Prop) (f : D → List D → MH → R D) : Prop := ∀ (H : Hp) (μ : List Addr) (h : MH) (x : V) (xs : List V) (a : D) (ds : List D) (Q : VK) (W : XK), HR g H μ h → VR g H μ x a → VRs g H μ xs ds → Bk (VR g) g H μ (f a ds h) Q W → r x xs H Q

section
variable {g : G} {H : Hp} {μ : List Addr} {h : MH} {Q : VK} {W : XK}
/-- the ends of an operation -/
theorem Bk.val {v : V} {d : D} (hb : Bk (VR g) g H μ (.ok d h) Q W) (hr : HR g H μ h) (hv : VR g H μ v d) : Q v H := hb v H μ Mon.refl hr hv
theorem Bk.newT {xs : List V} {ds : List D} {p : Addr} {ob : Obj} (hb : Bk (VR g) g H μ (.ok (.tup ds) h) Q W) (hr : HR g H μ h) (hv : VRs g H μ xs ds) (hp : H p = none) (ho : ob.dict = none) : Q (.ref p) (upd H p (.frz ob (.tup xs))) := by
  have m : Mon g H (upd H p (.frz ob (.tup xs))) μ μ := (Saf.fresh hp).mon
  exact hb _ _ μ m (hr.laid hp) (.tup (.inl ⟨ob, ho, upd_same⟩) (hv.mono m))
theorem mon_push {p : Addr} {o : HO} (hp : H p = none) : Mon g H (upd H p o) μ (μ ++ [p]) := ⟨List.prefix_append _ _, ((Saf.fresh hp : Saf H p).mon (g := g) (μ := μ) (o := o)).tups, ((Saf.fresh hp : Saf H p).mon (g := g) (μ := μ) (o := o)).xs, ((Saf.fresh hp : Saf H p).mon (g := g) (μ := μ) (o := o)).fz⟩
theorem ix_push {p : Addr} {n : Nat} (l : μ.length = n) : (μ ++ [p])[n]? = some p := by
  subst l
  simp
theorem Bk.newL {xs : List V} {ds : List D} {p : Addr} (hb : Bk (VR g) g H μ (.ok (.ref h.length) (h ++ [.lst ds])) Q W) (hr : HR g H μ h) (hv : VRs g H μ xs ds) (hp : H p = none) : Q (.ref p) (upd H p (.lst xs)) :=
  hb _ _ (μ ++ [p]) (mon_push hp) (hr.push hp ⟨xs, upd_same, hv.mono (mon_push hp)⟩) (.ref (ix_push hr.len))
theorem Bk.setL {xs xs' : List V} {ds ds' : List D} {p : Addr} {i : Nat} {v : V} {d : D} (hb : Bk (VR g) g H μ (.ok d (h.set i (.lst ds'))) Q W) (hr : HR g H μ h) (hi : μ[i]? = some p) (hh : h[i]? = some (.lst ds)) (hp : H p = some (.lst xs)) (hv : VRs g H μ xs' ds') (hd : VR g H μ v d) : Q v (upd H p (.lst xs')) := by
  have m : Mon g H (upd H p (.lst xs')) μ μ := (Saf.lst hp).mon
  exact hb v _ μ m (hr.write hi hh rfl (Saf.lst hp) rfl ⟨xs', upd_same, hv.mono m⟩) (hd.mono m)
/-- a cell that is a list -/
theorem HR.lst {i : Nat} {p : Addr} {ds : List D} (hr : HR g H μ h) (hi : μ[i]? = some p) (hh : h[i]? = some (.lst ds)) : ∃ xs, H p = some (.lst xs) ∧ VRs g H μ xs ds := hr.ob i p _ hi hh
/-- a list that may be read: a cell that changes or not -/
def getL (h : MH) (i : Nat) : Option (List D) := match h[i]? with
  | some (.lst l) => some l
  | some (.rol l) => some l
  | _ => none
theorem HR.list {i : Nat} {p : Addr} {ds : List D} (hr : HR g H μ h) (hi : μ[i]? = some p) (hh : getL h i = some ds) : ∃ xs, SqL g.K H p xs ∧ VRs g H μ xs ds := by
  unfold getL at hh
  split at hh
  · rename_i l e
    cases hh
    obtain ⟨xs, a, b⟩ := hr.ob i p _ hi e
    exact ⟨xs, .inl (.inl a), b⟩
  · rename_i l e
    cases hh
    obtain ⟨xs, a, b⟩ := hr.ob i p _ hi e
    exact ⟨xs, a.sq, b⟩
  · cases hh
end
theorem sz6 {n : Nat} (h : n ≤ 1000000) : n ≤ sizeLine := Nat.le_trans h (by decide)
theorem sz6' {n : Nat} (h : n < 1000000) : n < sizeLine := Nat.lt_trans h (by decide)

section
variable {X : Cx} {g : G} {W : WX} {a b e : Expr} {ma mb : ME} {pos : Pos} {es : List Expr} {mr : MA}
theorem se_var {i : Nat} {x : Str} (hN : X.N[i]? = some x) (hv : Vis X.env.scope x) (hd : (x == ("__debug__" : Str)) = false := by decide) (hcd : (x == ("__classdict__" : Str)) = false := by decide) : PE X (.Name x pos) (tE g W (mVar i)) :=
  pe_mono (pe_var hN hv hd hcd) fun σ H Q ⟨ρ, h, μ, sr, hr, bk⟩ => by
    unfold mVar at bk
    split at bk
    · rename_i d e
      obtain ⟨v, h1, h2⟩ := sr.get e
      exact ⟨v, h1, bk.val hr h2⟩
    · exact bk.elim
theorem mv (i : Nat) {x : Str} {pos : Pos} (hN : X.N[i]? = some x := by rfl) (hv : Vis X.env.scope x := by first | exact Or.inl rfl | exact Or.inr (Or.inl rfl) | exact Or.inr (Or.inr rfl)) (hd : (x == ("__debug__" : Str)) = false := by decide)
    (hcd : (x == ("__classdict__" : Str)) = false := by decide) : PE X (.Name x pos) (tE g W (mVar i)) := se_var hN hv hd hcd
theorem se_const {v : V} {d : D} (h : PE X e (tC v)) (hv : ∀ H μ, VR g H μ v d) : PE X e (tE g W (mC d)) := pe_mono h fun σ H Q ⟨ρ, hh, μ, sr, hr, bk⟩ => bk.val hr (hv H μ)
theorem se_int {i : Int} {j : Nat} : PE X (.Constant (.int i) j pos) (tE g W (mC (.int i))) := se_const pe_int fun _ _ => .int i
theorem se_bl {i : Bool} {j : Nat} : PE X (.Constant (.bool i) j pos) (tE g W (mC (.bl i))) := se_const pe_bl fun _ _ => .bl i
theorem se_non {j : Nat} : PE X (.Constant .none j pos) (tE g W (mC .non)) := se_const pe_non fun _ _ => .non
theorem se_str {x : Str} {j : Nat} : PE X (.Constant (.str x) j pos) (tE g W (mC (.str x))) := se_const pe_str fun _ _ => .str x
theorem se_globS {x y : Str} {t : Tok} (hg : Gl X x) (hm : X.mg x = some (.str y t)) (hd : (x == ("__debug__" : Str)) = false := by decide) : PE X (.Name x pos) (tE g W (mC (.str y))) := se_const (pe_glob (v := .str y) hg hm ⟨t, rfl⟩ hd) fun _ _ => .str y
theorem se_globI {x : Str} {y : Int} {t : Tok} (hg : Gl X x) (hm : X.mg x = some (.int y t)) (hd : (x == ("__debug__" : Str)) = false := by decide) : PE X (.Name x pos) (tE g W (mC (.int y))) := se_const (pe_glob (v := .int y) hg hm ⟨t, rfl⟩ hd) fun _ _ => .int y
/-- two parts by values -/
theorem two {r : R2} {f : D → D → MH → R D} (hs : S2 g r f) {σ : St} {H : Hp} {Q : VK} (q : tE g W (mBin f ma mb) σ H Q) : tOp r (tE g W ma) (tE g W mb) σ H Q := by
  obtain ⟨ρ, h, μ, sr, hr, bk⟩ := q
  exact step sr hr bk fun x a h1 H1 μ1 m1 sr1 hr1 vx bk1 => step sr1 hr1 bk1 fun y b h2 H2 μ2 m2 sr2 hr2 vy bk2 => hs H2 μ2 h2 x y a b Q _ hr2 (vx.mono m2) vy bk2
theorem se_bin {op : Operator} {r : R2} {f : D → D → MH → R D} (ho : OpR X (binaryOp op) r) (hs : S2 g r f) (ha : PE X a (tE g W ma)) (hb : PE X b (tE g W mb)) : PE X (.BinOp a op b pos) (tE g W (mBin f ma mb)) :=
  pe_mono (pe_op ho ha hb) fun σ H Q q => two hs q
theorem se_cmp {op : CmpOp} {r : R2} {f : D → D → MH → R D} (ho : OpR X (compareOp op) r) (hs : S2 g r f) (ha : PE X a (tE g W ma)) (hb : PE X b (tE g W mb)) (hm : behindInMarks op b = false) : PE X (.Compare a [op] [b] pos) (tE g W (mBin f ma mb)) :=
  pe_mono (pe_cmpR ho ha hb hm) fun σ H Q q => two hs q
theorem se_un {op : UnaryOp} {r : V → Hp → VK → Prop} {f : D → MH → R D} (ho : UnR X (unaryOp op) r) (hs : S1 g r f) (ha : PE X a (tE g W ma)) : PE X (.UnaryOp op a pos) (tE g W (mUn f ma)) :=
  pe_mono (pe_un ho ha) fun σ H Q ⟨ρ, h, μ, sr, hr, bk⟩ => step sr hr bk fun x a h1 H1 μ1 m1 sr1 hr1 vx bk1 => hs H1 μ1 h1 x a Q _ hr1 vx bk1
theorem se_ix {r : R2} {f : D → D → MH → R D} (hx : IxR X r) (hs : S2 g r f) (ha : PE X a (tE g W ma)) (hb : PE X b (tE g W mb)) (hp : PlainIx b) : PE X (.Subscript a b pos) (tE g W (mBin f ma mb)) :=
  pe_mono (pe_ix hx ha hb hp) fun σ H Q q => two hs q

/-! ### arguments, displays -/
theorem sa_nil : PA X [] (tA g W mNil) := pa_mono pa_nil fun σ H Q ⟨ρ, h, μ, sr, hr, bk⟩ => bk [] H μ Mon.refl hr .nil
theorem sa_cons (ha : PE X e (tE g W ma)) (hr : PA X es (tA g W mr)) (hs : starEach (e :: es) X.env = (false, eval e X.env) :: starEach es X.env := by rfl) : PA X (e :: es) (tA g W (mCons ma mr)) :=
  pa_mono (pa_cons ha hr hs) fun σ H Q ⟨ρ, h, μ, sr, hr, bk⟩ => step sr hr bk fun x a h1 H1 μ1 m1 sr1 hr1 vx bk1 => step sr1 hr1 bk1 fun xs ds h2 H2 μ2 m2 sr2 hr2 vs bk2 => bk2 (x :: xs) H2 μ2 Mon.refl hr2 (.cons (vx.mono m2) vs)
theorem se_tup {x1 : Nat} (h : PA X es (tA g W mr)) : PE X (.Tuple es x1 pos) (tE g W (mTup mr)) :=
  pe_mono (pe_tupF h) fun σ H Q ⟨ρ, h, μ, sr, hr, bk⟩ => step sr hr bk fun xs ds h1 H1 μ1 m1 sr1 hr1 vs bk1 => by
    split at bk1
    · rename_i hl
      exact ⟨by rw [vs.length]; exact sz6 hl, fun p ob hp ho => bk1.newT hr1 vs hp ho⟩
    · exact bk1.elim
theorem se_lst (h : PA X es (tA g W mr)) : PE X (.List es pos) (tE g W (mLst mr)) :=
  pe_mono (pe_lst h) fun σ H Q ⟨ρ, h, μ, sr, hr, bk⟩ => step sr hr bk fun xs ds h1 H1 μ1 m1 sr1 hr1 vs bk1 => by
    split at bk1
    · rename_i hl
      exact ⟨by rw [vs.length]; exact sz6 hl, fun p hp => bk1.newL hr1 vs hp⟩
    · exact bk1.elim
/-! ### calls of built-ins -/
theorem se_callB {x : Str} {p : Pos} {id : String} {r : List V → Hp → VK → Prop} {f : List D → MH → R D} (hc : CallR X (.builtin id) r) (hs : SN g r f) (hg : Gl X x) (hm : X.mg x = none) (hv : bootBuiltins x = some (.builtin id)) (ha : PA X (e :: es) (tA g W mr))
    (hn : x ≠ "__name__" := by decide) (hdb : (x == ("__debug__" : Str)) = false := by decide)
    (he : starEach (e :: es) X.env = (false, eval e X.env) :: starEach es X.env := by rfl) (hpl : (backTo pos (starEach es X.env)).any (·.1) = false := by rfl) : PE X (.Call (.Name x p) (e :: es) [] pos) (tE g W (mCall f mr)) :=
  pe_mono (pe_callB hc hg hm hv ha hn hdb he hpl) fun σ H Q ⟨ρ, h, μ, sr, hr, bk⟩ => step sr hr bk fun xs ds h1 H1 μ1 m1 sr1 hr1 vs bk1 => hs H1 μ1 h1 xs ds Q _ hr1 vs bk1
theorem se_callTy {x : Str} {p : Pos} {T : String} {r : List V → Hp → VK → Prop} {f : List D → MH → R D} (hc : CallR X (.type T) r) (hs : SN g r f) (hg : Gl X x) (hm : X.mg x = none) (hv : bootBuiltins x = some (.type T)) (ha : PA X (e :: es) (tA g W mr))
    (hn : x ≠ "__name__" := by decide) (hdb : (x == ("__debug__" : Str)) = false := by decide)
    (he : starEach (e :: es) X.env = (false, eval e X.env) :: starEach es X.env := by rfl) (hpl : (backTo pos (starEach es X.env)).any (·.1) = false := by rfl) : PE X (.Call (.Name x p) (e :: es) [] pos) (tE g W (mCall f mr)) :=
  pe_mono (pe_callTy hc hg hm hv ha hn hdb he hpl) fun σ H Q ⟨ρ, h, μ, sr, hr, bk⟩ => step sr hr bk fun xs ds h1 H1 μ1 m1 sr1 hr1 vs bk1 => hs H1 μ1 h1 xs ds Q _ hr1 vs bk1
/-! ### methods of built-in types -/
def mMeth (T : D → MH → Bool) (f : D → List D → MH → R D) (a : ME) (r : MA) : ME := fun ρ h => (a ρ h).bind fun x h1 => if T x h1 = true then (r ρ h1).bind fun xs h2 => f x xs h2 else .bad
def isListD (x : D) (h : MH) : Bool := match x with
  | .ref i => (getL h i).isSome
  | _ => false
def isStrD (x : D) (_ : MH) : Bool := match x with
  | .str _ => true
  | _ => false
def isTupD (x : D) (_ : MH) : Bool := match x with
  | .tup _ => true
  | _ => false
/-! ### defs of the program -/
def spM (g : G) (F : List D → MH → R D) : Sp := fun vs H Q E => ∃ ds h μ, VRs g H μ vs ds ∧ HR g H μ h ∧ Bk (VR g) g H μ (F ds h) Q E
theorem se_call {k : Nat} {f : Addr} {fd : FuncData} {ps : List Str} {F : List D → MH → R D} {x : Str} {p : Pos} (FF : FnOk X.prog X.w X.K X.mg X.base (L2.CX X.prog X.w) k f fd ps (spM g F)) (hr : Room k X.A) (tk : Takes X W) (hm : X.mg x = some (.ref f)) (hk : PySem.W.keepIn X.K (.ref f) = true) (hb : Binds X.K fd ps [])
    (ha : PA X (e :: es) (tA g W mr)) (hg : Gl X x := by rfl) (hdb : (x == ("__debug__" : Str)) = false := by decide) (he : starEach (e :: es) X.env = (false, eval e X.env) :: starEach es X.env := by rfl) (hpl : (backTo pos (starEach es X.env)).any (·.1) = false := by rfl) :
    PE X (.Call (.Name x p) (e :: es) [] pos) (tE g W (mCall F mr)) :=
  pe_mono (pe_callS FF hr hg hm hk hb (fun σ => passAt tk σ) ha hdb he hpl) fun σ H Q ⟨ρ, h, μ, sr, hr, bk⟩ => step sr hr bk fun xs ds h1 H1 μ1 m1 sr1 hr1 vs bk1 => ⟨ds, h1, μ1, vs, hr1, bk1⟩

/-! ### tests -/
def mB (a : ME) : MT := fun ρ h => (a ρ h).bind fun x h1 => match x with
  | .bl b => .ok b h1
  | _ => .bad
def mAnd (a b : MT) : MT := fun ρ h => (a ρ h).bind fun x h1 => if x = true then b ρ h1 else .ok false h1
def mOr (a b : MT) : MT := fun ρ h => (a ρ h).bind fun x h1 => if x = true then .ok true h1 else b ρ h1
def mNot (a : MT) : MT := fun ρ h => (a ρ h).bind fun x h1 => .ok (!x) h1
theorem bl_of {σ : St} {H : Hp} {Q : Bool → Hp → Prop} (q : tT g W (mB ma) σ H Q) : tE g W ma σ H fun x H1 => ∃ c, x = .bl c ∧ Q c H1 := by
  obtain ⟨ρ, h, μ, sr, hr, bk⟩ := q
  refine step (rel := VR) (rel' := fun _ => eqR) (ma := ma) sr hr bk fun x a h1 H1 μ1 m1 sr1 hr1 vx bk1 => ?_
  cases vx with
  | bl b => exact ⟨b, rfl, bk1 b H1 μ1 Mon.refl hr1 rfl⟩
  | _ => exact bk1.elim
theorem st_val (ha : PE X a (tE g W ma)) (he : ∀ whole, isTrue a X.env whole = (do let v ← whole; standAt a.pos; holding [v] (truthy v)) := by intro _; rfl) : PT X a (tT g W (mB ma)) :=
  pt_mono (pt_val ha he) fun σ H Q q => bl_of q
theorem st_cmp {op : CmpOp} {r : R2} {f : D → D → MH → R D} (ho : OpR X (compareOp op) r) (hs : S2 g r f) (ha : PE X a (tE g W ma)) (hb : PE X b (tE g W mb)) (hm : behindInMarks op b = false) : PT X (.Compare a [op] [b] pos) (tT g W (mB (mBin f ma mb))) :=
  pt_mono (pt_cmpR ho ha hb hm) fun σ H Q ⟨ρ, h, μ, sr, hr, bk⟩ => by
    refine two (W := W) (f := f) hs ⟨ρ, h, μ, sr, hr, ?_⟩
    refine Bk.bind bk fun a h1 b H1 μ1 _ m hr1 hv bk1 => ?_
    cases hv with
    | bl b => exact ⟨b, rfl, bk1 b H1 μ1 Mon.refl hr1 rfl⟩
    | _ => exact bk1.elim
variable {tm um : MT} {rest : List Expr}
theorem st_not (ha : PT X a (tT g W tm)) : PT X (.UnaryOp .Not a pos) (tT g W (mNot tm)) :=
  pt_mono (pt_not ha) fun σ H Q ⟨ρ, h, μ, sr, hr, bk⟩ => step (rel := fun _ => eqR) (rel' := fun _ => eqR) (ma := tm) (Q' := Q) sr hr bk fun x a h1 H1 μ1 m1 sr1 hr1 vx bk1 => by
    cases vx
    exact bk1 _ H1 μ1 Mon.refl hr1 rfl
theorem sw_and1 (ha : PT X a (tT g W tm)) : PW X (.BoolOp .And [a] pos) (tT g W tm) := pw_and1 ha
theorem sw_or1 (ha : PT X a (tT g W tm)) : PW X (.BoolOp .Or [a] pos) (tT g W tm) := pw_or1 ha
theorem sw_and (ha : PT X a (tT g W tm)) (hb : PW X (.BoolOp .And (b :: rest) pos) (tT g W um)) : PW X (.BoolOp .And (a :: b :: rest) pos) (tT g W (mAnd tm um)) :=
  pw_mono (pw_and ha hb) fun σ H Q ⟨ρ, h, μ, sr, hr, bk⟩ => step (rel := fun _ => eqR) (rel' := fun _ => eqR) (ma := tm) (Q' := Q) sr hr bk fun x a h1 H1 μ1 m1 sr1 hr1 vx bk1 => by
    cases vx
    cases x with
    | true => exact ⟨ρ, h1, μ1, sr1, hr1, bk1⟩
    | false => exact bk1 _ H1 μ1 Mon.refl hr1 rfl
theorem sw_or (ha : PT X a (tT g W tm)) (hb : PW X (.BoolOp .Or (b :: rest) pos) (tT g W um)) : PW X (.BoolOp .Or (a :: b :: rest) pos) (tT g W (mOr tm um)) :=
  pw_mono (pw_or ha hb) fun σ H Q ⟨ρ, h, μ, sr, hr, bk⟩ => step (rel := fun _ => eqR) (rel' := fun _ => eqR) (ma := tm) (Q' := Q) sr hr bk fun x a h1 H1 μ1 m1 sr1 hr1 vx bk1 => by
    cases vx
    cases x with
    | false => exact ⟨ρ, h1, μ1, sr1, hr1, bk1⟩
    | true => exact bk1 _ H1 μ1 Mon.refl hr1 rfl
/-! ### and, or, not as values (of truths) -/
def mAndV (a b : ME) : ME := fun ρ h => (a ρ h).bind fun x h1 => match x with
  | .bl true => b ρ h1
  | .bl false => .ok (.bl false) h1
  | _ => .bad
def mOrV (a b : ME) : ME := fun ρ h => (a ρ h).bind fun x h1 => match x with
  | .bl false => b ρ h1
  | .bl true => .ok (.bl true) h1
  | _ => .bad
def mNotV (a : ME) : ME := fun ρ h => (a ρ h).bind fun x h1 => match x with
  | .bl b => .ok (.bl (!b)) h1
  | _ => .bad
theorem se_one {op : BoolOp} {t : TE} (h : PE X a t) : PE X (.BoolOp op [a] pos) t := pe_one h
theorem se_and (ha : PE X a (tE g W ma)) (hb : PE X (.BoolOp .And (b :: rest) pos) (tE g W mb)) : PE X (.BoolOp .And (a :: b :: rest) pos) (tE g W (mAndV ma mb)) :=
  pe_mono (pe_and ha hb) fun σ H Q ⟨ρ, h, μ, sr, hr, bk⟩ => step (rel := VR) (rel' := VR) (ma := ma) (Q' := Q) sr hr bk fun x a h1 H1 μ1 m1 sr1 hr1 vx bk1 => by
    cases vx with
    | bl b =>
      cases b with
      | true => exact ⟨true, rfl, ρ, h1, μ1, sr1, hr1, bk1⟩
      | false => exact ⟨false, rfl, bk1.val hr1 (.bl false)⟩
    | _ => exact bk1.elim
theorem se_not (ha : PE X a (tE g W ma)) : PE X (.UnaryOp .Not a pos) (tE g W (mNotV ma)) :=
  pe_mono (pe_not ha) fun σ H Q ⟨ρ, h, μ, sr, hr, bk⟩ => step (rel := VR) (rel' := VR) (ma := ma) (Q' := Q) sr hr bk fun x a h1 H1 μ1 m1 sr1 hr1 vx bk1 => by
    cases vx with
    | bl b => exact ⟨b, rfl, bk1.val hr1 (.bl _)⟩
    | _ => exact bk1.elim
def mIfE (c : MT) (a b : ME) : ME := fun ρ h => (c ρ h).bind fun x h1 => if x = true then a ρ h1 else b ρ h1
end

/-! ### statements -/
def mSkip : MS := fun ρ h => .nx ρ h
def mSeq (a b : MS) : MS := fun ρ h => match a ρ h with
  | .nx ρ' h' => b ρ' h'
  | o => o
def mBreak : MS := fun ρ h => .bk ρ h
def mCont : MS := fun ρ h => .ct ρ h
def mDrop (e : ME) : MS := fun ρ h => (e ρ h).out ρ fun _ h1 => .nx ρ h1
def mRet (e : ME) : MS := fun ρ h => (e ρ h).out ρ fun d h1 => .rt d h1
def mRetN : MS := fun _ h => .rt .non h
def mIf (c : MT) (a b : MS) : MS := fun ρ h => (c ρ h).out ρ fun x h1 => if x = true then a ρ h1 else b ρ h1
def mAsg (i : Nat) (e : ME) : MS := fun ρ h => (e ρ h).out ρ fun d h1 => .nx (ρ.set i (some d)) h1
section
variable {X : Cx} {g : G} {W : WX} {e : Expr} {me : ME} {pos : Pos} {st : Stmt} {rest : List Stmt} {ms mr : MS}
theorem ss_nil : PSs X [] (tS g W mSkip) := pss_mono pss_nil fun E σ H ⟨ρ, h, μ, sr, hr, bk⟩ => bk σ H μ Mon.refl sr hr
theorem seq_of {E : Ends} {σ : St} {H : Hp} (q : tS g W (mSeq ms mr) E σ H) : tSeq (tS g W ms) (tS g W mr) E σ H := by
  obtain ⟨ρ, h, μ, sr, hr, bk⟩ := q
  refine ⟨ρ, h, μ, sr, hr, ?_⟩
  unfold mSeq at bk
  cases e : ms ρ h with
  | nx ρ' h' =>
    rw [e] at bk
    exact fun σ' H' μ' m sr' hr' => ⟨ρ', h', μ', sr', hr', BkS.mono m bk⟩
  | rt d h' => rw [e] at bk; exact bk
  | bk ρ' h' => rw [e] at bk; exact bk
  | ct ρ' h' => rw [e] at bk; exact bk
  | exc x fs ρ' h' => rw [e] at bk; exact bk
  | bad => rw [e] at bk; exact bk
theorem ss_cons (h1 : PS X st (tS g W ms)) (h2 : PSs X rest (tS g W mr)) : PSs X (st :: rest) (tS g W (mSeq ms mr)) := pss_mono (pss_cons h1 h2) fun E σ H q => seq_of q
theorem ss_one (h1 : PS X st (tS g W ms)) : PSs X [st] (tS g W ms) := pss_one h1
theorem sx_expr (he : PE X e (tE g W me)) (hs : swapsWith e none pos.line X.env = pure false := by rfl) : PS X (.Expr e pos) (tS g W (mDrop me)) :=
  ps_mono (ps_expr he hs) fun E σ H ⟨ρ, h, μ, sr, hr, bk⟩ => stepS (rel := VR) (ma := me) (E := E) sr hr bk fun x a h1 H1 μ1 m1 sr1 hr1 vx bk1 => bk1 σ H1 μ1 Mon.refl sr1 hr1
theorem sx_ret (he : PE X e (tE g W me)) : PS X (.Return (some e) pos) (tS g W (mRet me)) :=
  ps_mono (ps_ret he) fun E σ H ⟨ρ, h, μ, sr, hr, bk⟩ => stepS (rel := VR) (ma := me) (E := E) sr hr bk fun x a h1 H1 μ1 m1 sr1 hr1 vx bk1 => bk1 x H1 μ1 Mon.refl hr1 vx
theorem sx_if {c : Expr} {a b : List Stmt} {tm : MT} (hc : PT X c (tT g W tm)) (ha : PSs X a (tS g W ms)) (hb : PSs X b (tS g W mr)) : PS X (.If c a b pos) (tS g W (mIf tm ms mr)) :=
  ps_mono (ps_if hc ha hb) fun E σ H ⟨ρ, h, μ, sr, hr, bk⟩ => stepS (rel := fun _ => eqR) (ma := tm) (E := E) sr hr bk fun x a h1 H1 μ1 m1 sr1 hr1 vx bk1 => by
    cases vx
    cases x with
    | true => exact ⟨ρ, h1, μ1, sr1, hr1, bk1⟩
    | false => exact ⟨ρ, h1, μ1, sr1, hr1, bk1⟩
theorem sx_set {i : Nat} {x : Str} {pos' : Pos} (he : PE X e (tE g W me)) (hN : X.N.Nodup) (hi : X.N[i]? = some x := by rfl) (hx : Loc X.env.scope x := by first | exact Or.inl rfl | exact Or.inr rfl) (hs : swapsWith e (some (.Name x pos')) pos.line X.env = pure false := by rfl)
    (hf : X.fn x = true ∨ X.env.scope.names.lookup x = some .local := by first | exact .inl rfl | exact .inr rfl | assumption) : PS X (.Assign [.Name x pos'] e pos) (tS g W (mAsg i me)) :=
  ps_mono (ps_set hN hi hx he hs hf) fun E σ H ⟨ρ, h, μ, sr, hr, bk⟩ => stepS (rel := VR) (ma := me) (E := E) sr hr bk fun v d h1 H1 μ1 m1 sr1 hr1 vx bk1 => bk1 _ H1 μ1 Mon.refl (sr1.set i vx) hr1
end
end Mi
namespace Mi
open PySem L2

/-! ### operators by values -/
def dAdd : D → D → MH → R D
  | .int i, .int j, h => .ok (.int (i + j)) h
  | .str x, .str y, h => if x.length + y.length ≤ 1000000 then .ok (.str (x ++ y)) h else .bad
  | .tup a, .tup b, h => if a.length + b.length ≤ 1000000 then .ok (.tup (a ++ b)) h else .bad
  | .ref i, .ref j, h => match h[i]?, h[j]? with
    | some (.lst a), some (.lst b) => if a.length + b.length ≤ 1000000 then .ok (.ref h.length) (h ++ [.lst (a ++ b)]) else .bad
    | _, _ => .bad
  | _, _, _ => .bad
def dSub : D → D → MH → R D
  | .int i, .int j, h => .ok (.int (i - j)) h
  | _, _, _ => .bad
def dMul : D → D → MH → R D
  | .int i, .int j, h => if (Builtin.Int.intBits i : Int) + (Builtin.Int.intBits j : Int) ≤ 134217728 then .ok (.int (i * j)) h else .bad
  | .str x, .int n, h => if n ≤ 1000000 ∧ -1000000 ≤ n ∧ x.length * n.toNat ≤ 1000000 then .ok (.str (Txt.mul x n)) h else .bad
  | _, _, _ => .bad
def dFdiv : D → D → MH → R D
  | .int i, .int j, h => if 0 < j ∧ j.natAbs.log2 < 9000 then .ok (.int (i / j)) h else .bad
  | _, _, _ => .bad
def dMod : D → D → MH → R D
  | .int i, .int j, h => if 0 < j then .ok (.int (i % j)) h else .bad
  | _, _, _ => .bad
def dPow : D → D → MH → R D
  | .int i, .int j, h => if 0 ≤ j ∧ j ≤ 1000000 ∧ i.natAbs < 2 ^ 64 then .ok (.int (i ^ j.toNat)) h else .bad
  | _, _, _ => .bad
def dShl : D → D → MH → R D
  | .int i, .int j, h => if 0 ≤ j ∧ j ≤ 1000000 ∧ i.natAbs < 2 ^ 64 then .ok (.int (i * 2 ^ j.toNat)) h else .bad
  | _, _, _ => .bad
def dBand : D → D → MH → R D
  | .int i, .int j, h => .ok (.int (Builtin.bitAnd i j)) h
  | _, _, _ => .bad
def dBor : D → D → MH → R D
  | .int i, .int j, h => .ok (.int (Builtin.bitOr i j)) h
  | _, _, _ => .bad
def dLt : D → D → MH → R D
  | .int i, .int j, h => .ok (.bl (decide (i < j))) h
  | _, _, _ => .bad
def dLe : D → D → MH → R D
  | .int i, .int j, h => .ok (.bl (decide (i ≤ j))) h
  | _, _, _ => .bad
def dGt : D → D → MH → R D
  | .int i, .int j, h => .ok (.bl (decide (j < i))) h
  | _, _, _ => .bad
def dGe : D → D → MH → R D
  | .int i, .int j, h => .ok (.bl (decide (j ≤ i))) h
  | _, _, _ => .bad
def dNeg : D → MH → R D
  | .int i, h => .ok (.int (-i)) h
  | _, _ => .bad

section
variable {g : G} {X : Cx}
theorem s2_int {C : Int → Int → Prop} [∀ i j, Decidable (C i j)] {o : Int → Int → Int} {f : D → D → MH → R D} (hi : ∀ i j h, f (.int i) (.int j) h = if C i j then .ok (.int (o i j)) h else .bad) (hb : ∀ a b h, (∀ i j, ¬ (a = .int i ∧ b = .int j)) → f a b h = .bad) :
    S2 g (rI C fun i j => .int (o i j)) f := by
  intro H μ h x y a b Q W hr vx vy bk
  have no : (∀ i j, ¬ (a = .int i ∧ b = .int j)) → rI C (fun i j => .int (o i j)) x y H Q := fun z => by rw [hb a b h z] at bk; exact bk.elim
  cases vx with
  | int i =>
    cases vy with
    | int j =>
      rw [hi] at bk
      by_cases c : C i j
      · rw [if_pos c] at bk
        exact ⟨i, j, rfl, rfl, c, bk.val hr (.int _)⟩
      · rw [if_neg c] at bk; exact bk.elim
    | _ => exact no fun _ _ z => nomatch z.2
  | _ => exact no fun _ _ z => nomatch z.1
theorem s2_int0 {o : Int → Int → V} {o' : Int → Int → D} {f : D → D → MH → R D} (hi : ∀ i j h, f (.int i) (.int j) h = .ok (o' i j) h) (hv : ∀ H μ i j, VR g H μ (o i j) (o' i j)) (hb : ∀ a b h, (∀ i j, ¬ (a = .int i ∧ b = .int j)) → f a b h = .bad) :
    S2 g (rI0 o) f := by
  intro H μ h x y a b Q W hr vx vy bk
  have no : (∀ i j, ¬ (a = .int i ∧ b = .int j)) → rI0 o x y H Q := fun z => by rw [hb a b h z] at bk; exact bk.elim
  cases vx with
  | int i =>
    cases vy with
    | int j =>
      rw [hi] at bk
      exact ⟨i, j, rfl, rfl, bk.val hr (hv _ _ _ _)⟩
    | _ => exact no fun _ _ z => nomatch z.2
  | _ => exact no fun _ _ z => nomatch z.1
theorem int_bad {f : D → D → MH → R D} (hf : ∀ (a b : D) (h : MH), (match a, b with | D.int _, D.int _ => True | _, _ => f a b h = .bad)) : ∀ a b h, (∀ i j, ¬ (a = .int i ∧ b = .int j)) → f a b h = .bad := fun a b h z => by
  have := hf a b h
  split at this
  · exact absurd ⟨rfl, rfl⟩ (z _ _)
  · exact this
theorem s2_sub : S2 g (rI0 fun i j => .int (i - j)) dSub := s2_int0 (o' := fun i j => .int (i - j)) (fun _ _ _ => rfl) (fun _ _ _ _ => .int _) (int_bad fun a b h => by cases a <;> cases b <;> first | trivial | rfl)
theorem s2_fdiv : S2 g (rI CDivW fun i j => .int (i / j)) dFdiv := s2_int (C := fun i j => 0 < j ∧ j.natAbs.log2 < 9000) (o := fun i j => i / j) (fun _ _ _ => rfl) (int_bad fun a b h => by cases a <;> cases b <;> first | trivial | rfl)
theorem s2_mod : S2 g (rI (fun _ j => 0 < j) fun i j => .int (i % j)) dMod := s2_int (C := fun i j => 0 < j) (o := fun i j => i % j) (fun _ _ _ => rfl) (int_bad fun a b h => by cases a <;> cases b <;> first | trivial | rfl)
theorem s2_pow : S2 g (rI CPow fun i j => .int (i ^ j.toNat)) dPow := s2_int (C := fun i j => 0 ≤ j ∧ j ≤ 1000000 ∧ i.natAbs < 2 ^ 64) (o := fun i j => i ^ j.toNat) (fun _ _ _ => rfl) (int_bad fun a b h => by cases a <;> cases b <;> first | trivial | rfl)
theorem s2_lt : S2 g (rI0 fun i j => .bl (decide (i < j))) dLt := s2_int0 (o' := fun i j => .bl (decide (i < j))) (fun _ _ _ => rfl) (fun _ _ _ _ => .bl _) (int_bad fun a b h => by cases a <;> cases b <;> first | trivial | rfl)
theorem s2_gt : S2 g (rI0 fun i j => .bl (decide (j < i))) dGt := s2_int0 (o' := fun i j => .bl (decide (j < i))) (fun _ _ _ => rfl) (fun _ _ _ _ => .bl _) (int_bad fun a b h => by cases a <;> cases b <;> first | trivial | rfl)
theorem s2_ge : S2 g (rI0 fun i j => .bl (decide (j ≤ i))) dGe := s2_int0 (o' := fun i j => .bl (decide (j ≤ i))) (fun _ _ _ => rfl) (fun _ _ _ _ => .bl _) (int_bad fun a b h => by cases a <;> cases b <;> first | trivial | rfl)
theorem s1_neg : S1 g (rU fun i => .int (-i)) dNeg := by
  intro H μ h x a Q W hr vx bk
  cases vx with
  | int i => exact ⟨i, rfl, bk.val hr (.int _)⟩
  | _ => exact bk.elim
/-- + -/
def rAddA (K : PySem.W.Frag) : R2 := fun x y H Q => (rI0 (fun i j => .int (i + j)) x y H Q ∨ (∃ i j, x = .str i ∧ y = .str j ∧ i.length + j.length ≤ sizeLine ∧ Q (.str (i ++ j)) H)) ∨ (rCatF K x y H Q ∨ rCat x y H Q)
theorem op_addA : OpR X (binaryOp .Add) (rAddA X.K) := (op_add.or op_add_str).or (op_catF.or op_cat)
theorem nil_of_vrs {H : Hp} {μ : List Addr} {xs : List V} {ds : List D} (h : VRs g H μ xs ds) (e : xs = []) : ds = [] := by subst e; cases h; rfl
theorem s2_add : S2 g (rAddA g.K) dAdd := by
  intro H μ h x y a b Q W hr vx vy bk
  cases vx with
  | int i =>
    cases vy with
    | int j => exact .inl (.inl ⟨i, j, rfl, rfl, bk.val hr (.int _)⟩)
    | _ => exact bk.elim
  | str i =>
    cases vy with
    | str j =>
      simp only [dAdd] at bk
      split at bk
      · rename_i hl
        exact .inl (.inr ⟨i, j, rfl, rfl, sz6 hl, bk.val hr (.str _)⟩)
      · exact bk.elim
    | _ => exact bk.elim
  | @tup p xs ds hs vs =>
    cases vy with
    | @tup q ys es ht vt =>
      simp only [dAdd] at bk
      split at bk
      · rename_i hl
        refine .inr (.inl ⟨p, q, xs, ys, rfl, rfl, hs.sq, ht.sq, by rw [vs.length, vt.length]; exact sz6 hl, fun e => ?_, fun e e' => ?_, fun e e' r ob hr' ho => ?_⟩)
        · rw [nil_of_vrs vs e] at bk
          exact bk.val hr (.tup ht vt)
        · rw [nil_of_vrs vt e', List.append_nil] at bk
          exact bk.val hr (.tup hs vs)
        · exact bk.newT hr (vs.append vt) hr' ho
      · exact bk.elim
    | _ => exact bk.elim
  | @ref p i hi =>
    cases vy with
    | @ref q j hj =>
      simp only [dAdd] at bk
      split at bk
      · rename_i l1 l2 e1 e2
        obtain ⟨xs, h1, v1⟩ := hr.lst hi e1
        obtain ⟨ys, h2, v2⟩ := hr.lst hj e2
        split at bk
        · rename_i hl
          exact .inr (.inr ⟨p, q, xs, ys, rfl, rfl, h1, h2, by rw [v1.length, v2.length]; exact sz6 hl, fun r hr' => bk.newL hr (v1.append v2) hr'⟩)
        · exact bk.elim
      · exact bk.elim
    | _ => exact bk.elim
  | _ => exact bk.elim
/-- * -/
theorem op_mul_str : OpR X (binaryOp .Mult) (fun x y H Q => ∃ z n, x = .str z ∧ y = .int n ∧ MulOk z n ∧ Q (.str (Txt.mul z n)) H) := by
  intro pins s σ H x y v u Q I rx ry h
  obtain ⟨z, n, rfl, rfl, hok, q⟩ := h
  obtain ⟨t, rfl⟩ := rx
  obtain ⟨t', rfl⟩ := ry
  exact PySem.SB.mul hok fun t' k => ⟨.str _, H, I.tok k, ⟨t', rfl⟩, q⟩
def rMulA : R2 := fun x y H Q => rI CMulX (fun i j => .int (i * j)) x y H Q ∨ (∃ z n, x = .str z ∧ y = .int n ∧ MulOk z n ∧ Q (.str (Txt.mul z n)) H)
theorem op_mulA : OpR X (binaryOp .Mult) rMulA := op_mulX.or op_mul_str
theorem mulOk_of {z : Str} {n : Int} (h1 : n ≤ 1000000) (h2 : -1000000 ≤ n) (h3 : z.length * n.toNat ≤ 1000000) : MulOk z n := by
  refine ⟨?_, fun a b => ?_, fun a b => ?_⟩
  · rw [decide_eq_false (by omega), decide_eq_false (by omega)]; rfl
  · have hz : z.length ≤ 1000000 := Nat.le_trans (Nat.le_mul_of_pos_right _ (by omega)) h3
    have : (2 ^ 63 - 1 : Int) / n ≥ (2 ^ 63 - 1) / 1000000 := by
      have h0 : 0 < n := by omega
      rw [ge_iff_le, Int.le_ediv_iff_mul_le h0]
      have : (2 ^ 63 - 1 : Int) / 1000000 * n ≤ (2 ^ 63 - 1 : Int) / 1000000 * 1000000 := Int.mul_le_mul_of_nonneg_left h1 (by decide)
      exact Int.le_trans this (by decide)
    have h4 : ((2 ^ 63 - 1 : Int)) / 1000000 ≥ 1000000 := by decide
    omega
  · unfold Builtin.Str.tooLong
    simp only [decide_eq_false_iff_not]
    first
      | (show ¬ (z.length * n.toNat > sizeLine); rw [sizeLine_eq]; omega)
      | (rw [decide_eq_false_iff_not, sizeLine_eq]; omega)
      | (simp; omega)
theorem s2_mul : S2 g rMulA dMul := by
  intro H μ h x y a b Q W hr vx vy bk
  cases vx with
  | int i =>
    cases vy with
    | int j =>
      simp only [dMul] at bk
      split at bk
      · rename_i c
        exact .inl ⟨i, j, rfl, rfl, c, bk.val hr (.int _)⟩
      · exact bk.elim
    | _ => exact bk.elim
  | str z =>
    cases vy with
    | int n =>
      simp only [dMul] at bk
      split at bk
      · rename_i c
        exact .inr ⟨z, n, rfl, rfl, mulOk_of c.1 c.2.1 c.2.2, bk.val hr (.str _)⟩
      · exact bk.elim
    | _ => exact bk.elim
  | _ => exact bk.elim
end

/-! ### ==, != -/
def allSome {α : Type} : List (Option α) → Option (List α)
  | [] => some []
  | none :: _ => none
  | some a :: r => (allSome r).map (a :: ·)
def pyOf : Nat → MH → D → Option PyData
  | 0, _, _ => none
  | _ + 1, _, .non => some .none
  | _ + 1, _, .bl b => some (.bool b)
  | _ + 1, _, .int i => some (.int i)
  | _ + 1, _, .str x => some (.str x)
  | n + 1, h, .tup l => (allSome (l.map (pyOf n h))).map .tuple
  | n + 1, h, .ref i => (getL h i).bind fun l => (allSome (l.map (pyOf n h))).map .list
  | _ + 1, _, .xo _ _ _ => none
section
variable {g : G} {X : Cx} {H : Hp} {μ : List Addr} {h : MH}
theorem dp_all {f : D → Option PyData} (hf : ∀ d v e, VR g H μ v d → f d = some e → Dp g.K H v e) : ∀ {xs : List V} {ds : List D} {es : List PyData}, VRs g H μ xs ds → allSome (ds.map f) = some es → DpAll g.K H xs es
  | _, _, _, .nil, e => by
    simp only [List.map_nil, allSome, Option.some.injEq] at e
    subst e
    exact .nil
  | _, _, _, .cons (d := d) a b, e => by
    rw [List.map_cons] at e
    cases q : f d with
    | none => rw [q] at e; simp [allSome] at e
    | some z =>
      rw [q] at e
      simp only [allSome, Option.map_eq_some_iff] at e
      obtain ⟨r, e1, rfl⟩ := e
      exact .cons (hf _ _ _ a q) (dp_all hf b e1)
theorem dp_of (hr : HR g H μ h) : ∀ (n : Nat) (d : D) (v : V) (e : PyData), VR g H μ v d → pyOf n h d = some e → Dp g.K H v e
  | 0, _, _, _, _, q => by cases q
  | n + 1, d, v, e, a, q => by
    cases a with
    | xo _ _ _ _ => cases q
    | non => cases q; exact .non
    | bl b => cases q; exact .bl b
    | int b => cases q; exact .int b
    | str b => cases q; exact .str b
    | tup hs vs =>
      simp only [pyOf, Option.map_eq_some_iff] at q
      obtain ⟨es, q, rfl⟩ := q
      exact .tup hs.sq (dp_all (fun d v e a q => dp_of hr n d v e a q) vs q)
    | ref hi =>
      simp only [pyOf, Option.bind_eq_some_iff, Option.map_eq_some_iff] at q
      obtain ⟨l, q1, es, q2, rfl⟩ := q
      obtain ⟨xs, hs, vs⟩ := hr.list hi q1
      exact .lst hs (dp_all (fun d v e a q => dp_of hr n d v e a q) vs q2)
def scalD : D → D → Bool
  | .non, .non => true | .non, .int _ => true | .int _, .non => true | .non, .bl _ => true | .bl _, .non => true | .non, .str _ => true | .str _, .non => true
  | .int _, .int _ => true | .bl _, .bl _ => true | .str _, .str _ => true
  | .int _, .str _ => true | .str _, .int _ => true | .bl _, .str _ => true | .str _, .bl _ => true
  | _, _ => false
def eqD (a b : D) (h : MH) : Option Bool := if scalD a b = true then some (decide (a = b)) else match pyOf 60 h a, pyOf 60 h b with
  | some d, some e => if SeqAt.shaped d = true ∧ SeqAt.shaped e = true then some (PyData.eqv d e) else none
  | _, _ => none
/-- two dicts without pairs -/
def no2 (a b : D) (h : MH) : Bool := match a, b with
  | .ref i, .ref j => decide (h[i]? = some (.dK [])) && decide (h[j]? = some (.dK []))
  | _, _ => false
/-- two tuples, one without items -/
def emp2 (a b : D) : Option Bool := match a, b with
  | .tup l, .tup m => if l = [] ∨ m = [] then some (decide (l.length = m.length)) else none
  | _, _ => none
def dEq (a b : D) (h : MH) : R D := match eqD a b h with
  | some k => .ok (.bl k) h
  | none => match emp2 a b with
    | some k => .ok (.bl k) h
    | none => if no2 a b h = true then .ok (.bl true) h else .bad
def dNe (a b : D) (h : MH) : R D := match eqD a b h with
  | some k => .ok (.bl (!k)) h
  | none => match emp2 a b with
    | some k => .ok (.bl (!k)) h
    | none => .bad
def rEqE (K : PySem.W.Frag) : R2 := fun x y H Q => ∃ a b xs ys, x = .ref a ∧ y = .ref b ∧ SqT K H a xs ∧ SqT K H b ys ∧ (xs = [] ∨ ys = []) ∧ Q (.bl (decide (xs.length = ys.length))) H
def rNeE (K : PySem.W.Frag) : R2 := fun x y H Q => ∃ a b xs ys, x = .ref a ∧ y = .ref b ∧ SqT K H a xs ∧ SqT K H b ys ∧ (xs = [] ∨ ys = []) ∧ Q (.bl (!decide (xs.length = ys.length))) H
theorem emp_ev {us ws : Array Value} {n m : Nat} (h1 : us.size = n) (h2 : ws.size = m) (h0 : n = 0 ∨ m = 0) : ((List.range (min us.size ws.size)).all (fun _ => true) && us.size == ws.size) = decide (n = m) := by
  subst h1 h2
  have : min us.size ws.size = 0 := by omega
  rw [this]
  simp only [List.range_zero, List.all_nil, Bool.true_and]
  rw [Bool.eq_iff_iff, beq_iff_eq, decide_eq_true_iff]
theorem op_eqE (hu : X.A.units + 64 < cLine) : OpR X (compareOp .Eq) (rEqE X.K) := by
  intro pins s σ H x y v u Q I rx ry hh
  obtain ⟨a, b, xs, ys, rfl, rfl, ha, hb, h0, q⟩ := hh
  cases rx
  cases ry
  obtain ⟨ws1, r1, p1, _⟩ := I.tuple ha
  obtain ⟨ws2, r2, p2, _⟩ := I.tuple hb
  have l1 : ws1.toArray.size = xs.length := by rw [List.size_toArray]; exact r1.length.symm
  have l2 : ws2.toArray.size = ys.length := by rw [List.size_toArray]; exact r2.length.symm
  have h00 : xs.length = 0 ∨ ys.length = 0 := by
    rcases h0 with z | z
    · exact .inl (by rw [z]; rfl)
    · exact .inr (by rw [z]; rfl)
  refine SeqAt.eq_tupleAt (e := fun _ => true) p1 p2 (by omega) (fun j j1 j2 => by omega) ?_
  rw [emp_ev l1 l2 h00]
  exact ⟨.bl _, H, I, rfl, q⟩
theorem op_neE (hu : X.A.units + 64 < cLine) : OpR X (compareOp .NotEq) (rNeE X.K) := by
  intro pins s σ H x y v u Q I rx ry hh
  obtain ⟨a, b, xs, ys, rfl, rfl, ha, hb, h0, q⟩ := hh
  cases rx
  cases ry
  obtain ⟨ws1, r1, p1, _⟩ := I.tuple ha
  obtain ⟨ws2, r2, p2, _⟩ := I.tuple hb
  have l1 : ws1.toArray.size = xs.length := by rw [List.size_toArray]; exact r1.length.symm
  have l2 : ws2.toArray.size = ys.length := by rw [List.size_toArray]; exact r2.length.symm
  have h00 : xs.length = 0 ∨ ys.length = 0 := by
    rcases h0 with z | z
    · exact .inl (by rw [z]; rfl)
    · exact .inr (by rw [z]; rfl)
  refine SeqAt.RcNeAt.tuples (e := fun _ => true) p1 p2 (by omega) (fun j j1 j2 => by omega) _ _ _ _ ?_
  rw [emp_ev l1 l2 h00]
  exact ⟨.bl _, H, I, rfl, q⟩
def rEqA (K : PySem.W.Frag) : R2 := fun x y H Q => rEq x y H Q ∨ (rEqD K x y H Q ∨ (rEqV K x y H Q ∨ rEqE K x y H Q))
def rNeA (K : PySem.W.Frag) : R2 := fun x y H Q => rNe x y H Q ∨ (rNeD K x y H Q ∨ rNeE K x y H Q)
theorem op_eqA (hu : X.A.units + 65 < cLine) : OpR X (compareOp .Eq) (rEqA X.K) := op_eq.or ((op_eqD (by omega)).or ((op_eqV (by omega)).or (op_eqE (by omega))))
theorem op_neA (hu : X.A.units + 65 < cLine) : OpR X (compareOp .NotEq) (rNeA X.K) := op_ne.or ((op_neD (by omega)).or (op_neE (by omega)))
theorem scal_of {x y : V} {a b : D} (vx : VR g H μ x a) (vy : VR g H μ y b) (e : scalD a b = true) : scal x y = true ∧ decide (x = y) = decide (a = b) := by
  cases vx <;> cases vy <;> first | (cases e; done) | (refine ⟨rfl, ?_⟩; simp)
theorem eq_of {x y : V} {a b : D} {k : Bool} (hr : HR g H μ h) (vx : VR g H μ x a) (vy : VR g H μ y b) (e : eqD a b h = some k) :
    (scal x y = true ∧ decide (x = y) = k) ∨ ∃ d e, Dp g.K H x d ∧ Dp g.K H y e ∧ SeqAt.shaped d = true ∧ SeqAt.shaped e = true ∧ PyData.eqv d e = k := by
  unfold eqD at e
  split at e
  · rename_i s
    obtain ⟨h1, h2⟩ := scal_of vx vy s
    cases e
    exact .inl ⟨h1, h2⟩
  · split at e
    · rename_i d e' q1 q2
      split at e
      · rename_i s
        cases e
        exact .inr ⟨d, e', dp_of hr _ _ _ _ vx q1, dp_of hr _ _ _ _ vy q2, s.1, s.2, rfl⟩
      · cases e
    · cases e
theorem s2_eq : S2 g (rEqA g.K) dEq := by
  intro H μ h x y a b Q W hr vx vy bk
  unfold dEq at bk
  split at bk
  · rename_i k e
    rcases eq_of hr vx vy e with ⟨h1, h2⟩ | ⟨d, e, h1, h2, h3, h4, h5⟩
    · exact .inl ⟨h1, by rw [h2]; exact bk.val hr (.bl _)⟩
    · exact .inr (.inl ⟨d, e, h1, h2, h3, h4, by rw [h5]; exact bk.val hr (.bl _)⟩)
  · split at bk
    · rename_i k q
      unfold emp2 at q
      split at q
      · rename_i l m
        split at q
        · rename_i z
          cases q
          cases vx with
          | tup hs vs =>
            cases vy with
            | tup ht ws =>
              refine .inr (.inr (.inr ⟨_, _, _, _, rfl, rfl, hs.sq, ht.sq, ?_, ?_⟩))
              · rcases z with z | z
                · subst z; cases vs; exact .inl rfl
                · subst z; cases ws; exact .inr rfl
              · rw [vs.length, ws.length]; exact bk.val hr (.bl _)
        · cases q
      · cases q
    · split at bk
      · rename_i q
        unfold no2 at q
        split at q
        · rename_i i j
          obtain ⟨q1, q2⟩ := Bool.and_eq_true_iff.mp q
          cases vx with
          | ref hi =>
            cases vy with
            | ref hj =>
              obtain ⟨k1, e1, r1⟩ := hr.ob _ _ _ hi (of_decide_eq_true q1)
              obtain ⟨k2, e2, r2⟩ := hr.ob _ _ _ hj (of_decide_eq_true q2)
              cases r1
              cases r2
              exact .inr (.inr (.inl ⟨1, by decide, .inr ⟨_, _, [], [], rfl, rfl, e1, e2, rfl, fun p hp => by simp at hp⟩, bk.val hr (.bl true)⟩))
        · cases q
      · exact bk.elim
theorem s2_ne : S2 g (rNeA g.K) dNe := by
  intro H μ h x y a b Q W hr vx vy bk
  unfold dNe at bk
  split at bk
  · rename_i k e
    rcases eq_of hr vx vy e with ⟨h1, h2⟩ | ⟨d, e, h1, h2, h3, h4, h5⟩
    · exact .inl ⟨h1, by rw [h2]; exact bk.val hr (.bl _)⟩
    · exact .inr (.inl ⟨d, e, h1, h2, h3, h4, by rw [h5]; exact bk.val hr (.bl _)⟩)
  · split at bk
    · rename_i k q
      unfold emp2 at q
      split at q
      · rename_i l m
        split at q
        · rename_i z
          cases q
          cases vx with
          | tup hs vs =>
            cases vy with
            | tup ht ws =>
              refine .inr (.inr ⟨_, _, _, _, rfl, rfl, hs.sq, ht.sq, ?_, ?_⟩)
              · rcases z with z | z
                · subst z; cases vs; exact .inl rfl
                · subst z; cases ws; exact .inr rfl
              · rw [vs.length, ws.length]; exact bk.val hr (.bl _)
        · cases q
      · cases q
    · exact bk.elim
/-! ### is None -/
def dIsN : D → D → MH → R D
  | a, .non, h => .ok (.bl (decide (a = .non))) h
  | _, _, _ => .bad
def dNotN : D → D → MH → R D
  | a, .non, h => .ok (.bl (!decide (a = .non))) h
  | _, _, _ => .bad
theorem non_of {x : V} {a : D} (vx : VR g H μ x a) : decide (x = .non) = decide (a = .non) := by cases vx <;> simp
theorem s2_isN : S2 g (fun x y H Q => y = .non ∧ Q (.bl (decide (x = .non))) H) dIsN := by
  intro H μ h x y a b Q W hr vx vy bk
  cases vy with
  | non => exact ⟨rfl, by rw [non_of vx]; exact bk.val hr (.bl _)⟩
  | _ => simp only [dIsN] at bk; exact bk.elim
/-! ### in -/
def flatD : D → Bool
  | .non => true | .bl _ => true | .int _ => true | .str _ => true | _ => false
def eqF : D → D → Bool
  | .non, .non => true
  | .bl a, .bl b => a == b
  | .bl a, .int b => (if a then 1 else 0) == b
  | .int a, .bl b => a == (if b then 1 else 0)
  | .int a, .int b => a == b
  | .str a, .str b => a == b
  | _, _ => false
def seqOf (h : MH) : D → Option (List D)
  | .tup l => some l
  | .ref i => getL h i
  | _ => none
/-- x in y: a sign in a text, a flat thing in a list or tuple of such, a nested one in a list -/
def inD (a b : D) (h : MH) : Option Bool := match a, b with
  | .str x, .str z => match x.cps.toList with
    | [c] => some (decide (c ∈ z.cps.toList))
    | _ => none
  | a, b => match seqOf h b with
    | some l => if flatD a = true ∧ l.all flatD = true then some (l.any fun y => eqF y a) else match pyOf 60 h a, pyOf 60 h b with
      | some d, some (.list es) => if SeqAt.shaped d = true ∧ SeqAt.shaped (.list es) = true then some (es.any fun z => PyData.eqv z d) else none
      | _, _ => none
    | none => none
def dIn (a b : D) (h : MH) : R D := match inD a b h with
  | some k => .ok (.bl k) h
  | none => .bad
def dNotIn (a b : D) (h : MH) : R D := match inD a b h with
  | some k => .ok (.bl (!k)) h
  | none => .bad
def rInA (K : PySem.W.Frag) : R2 := fun x y H Q => (∃ (c : Nat) (z : Str), x = .str ⟨#[c]⟩ ∧ y = .str z ∧ Q (.bl (decide (c ∈ z.cps.toList))) H) ∨ (rIn K false x y H Q ∨ rInD K x y H Q)
def rNotInA (K : PySem.W.Frag) : R2 := fun x y H Q => (∃ (c : Nat) (z : Str), x = .str ⟨#[c]⟩ ∧ y = .str z ∧ Q (.bl (!decide (c ∈ z.cps.toList))) H) ∨ (rIn K true x y H Q ∨ rNotInD K x y H Q)
theorem op_inA (hu : X.A.units + 65 < cLine) : OpR X (compareOp .In) (rInA X.K) := op_in_sign.or (op_in_seq.or (op_inD hu))
theorem op_notInA (hu : X.A.units + 65 < cLine) : OpR X (compareOp .NotIn) (rNotInA X.K) := op_notIn_sign.or (op_notIn_seq.or (op_notInD hu))
theorem flat_of {x : V} {a : D} (vx : VR g H μ x a) : flatV x = flatD a := by cases vx <;> rfl
theorem flats_of : ∀ {xs : List V} {ds : List D}, VRs g H μ xs ds → xs.all flatV = ds.all flatD
  | _, _, .nil => rfl
  | _, _, .cons a b => by rw [List.all_cons, List.all_cons, flat_of a, flats_of b]
theorem eqF_of {x y : V} {a b : D} (vx : VR g H μ x a) (vy : VR g H μ y b) : eqV x y = eqF a b := by cases vx <;> cases vy <;> rfl
theorem any_of {x : V} {a : D} (vx : VR g H μ x a) : ∀ {xs : List V} {ds : List D}, VRs g H μ xs ds → inV x xs = ds.any fun y => eqF y a
  | _, _, .nil => rfl
  | _, _, .cons c b => by
    show (eqV _ x || inV x _) = _
    rw [List.any_cons, eqF_of c vx, any_of vx b]
theorem HR.seq {p : Addr} {b : D} {l : List D} (hr : HR g H μ h) (vb : VR g H μ (.ref p) b) (e : seqOf h b = some l) : ∃ xs, (SqL g.K H p xs ∨ SqT g.K H p xs) ∧ VRs g H μ xs l := by
  cases vb with
  | ref hi => obtain ⟨xs, h1, h2⟩ := hr.list hi e; exact ⟨xs, .inl h1, h2⟩
  | tup hs vs => cases e; exact ⟨_, .inr hs.sq, vs⟩
  | xo _ _ _ _ => cases e
theorem in_of {x y : V} {a b : D} {k : Bool} (hr : HR g H μ h) (vx : VR g H μ x a) (vy : VR g H μ y b) (e : inD a b h = some k) :
    (∃ (c : Nat) (z : Str), x = .str ⟨#[c]⟩ ∧ y = .str z ∧ decide (c ∈ z.cps.toList) = k) ∨ (∃ p xs, y = .ref p ∧ (SqL g.K H p xs ∨ SqT g.K H p xs) ∧ flatV x = true ∧ xs.all flatV = true ∧ inV x xs = k) ∨
      ∃ d ds, Dp g.K H x d ∧ Dp g.K H y (.list ds) ∧ SeqAt.shaped d = true ∧ SeqAt.shaped (.list ds) = true ∧ (ds.any fun z => PyData.eqv z d) = k := by
  unfold inD at e
  split at e
  · rename_i x' z
    cases vx
    cases vy
    split at e
    · rename_i c q
      cases e
      refine .inl ⟨c, z, ?_, rfl, rfl⟩
      obtain ⟨⟨cs⟩⟩ := x'
      cases q
      rfl
    · cases e
  · split at e
    · rename_i l q
      have hy : ∃ p, y = .ref p := by cases vy <;> first | exact ⟨_, rfl⟩ | cases q
      obtain ⟨p, rfl⟩ := hy
      obtain ⟨xs, h1, h2⟩ := hr.seq vy q
      split at e
      · rename_i c
        cases e
        exact .inr (.inl ⟨p, xs, rfl, h1, by rw [flat_of vx]; exact c.1, by rw [flats_of h2]; exact c.2, any_of vx h2⟩)
      · split at e
        · rename_i d es q1 q2
          split at e
          · rename_i c
            cases e
            exact .inr (.inr ⟨d, es, dp_of hr _ _ _ _ vx q1, dp_of hr _ _ _ _ vy q2, c.1, c.2, rfl⟩)
          · cases e
        · cases e
    · cases e
theorem s2_in : S2 g (rInA g.K) dIn := by
  intro H μ h x y a b Q W hr vx vy bk
  unfold dIn at bk
  split at bk
  · rename_i k e
    rcases in_of hr vx vy e with ⟨c, z, h1, h2, h3⟩ | ⟨p, xs, h1, h2, h3, h4, h5⟩ | ⟨d, e, h1, h2, h3, h4, h5⟩
    · exact .inl ⟨c, z, h1, h2, by rw [h3]; exact bk.val hr (.bl _)⟩
    · exact .inr (.inl ⟨p, xs, h1, h2, h3, h4, by rw [if_neg Bool.false_ne_true, h5]; exact bk.val hr (.bl _)⟩)
    · exact .inr (.inr ⟨d, e, h1, h2, h3, h4, by rw [h5]; exact bk.val hr (.bl _)⟩)
  · exact bk.elim
theorem s2_notIn : S2 g (rNotInA g.K) dNotIn := by
  intro H μ h x y a b Q W hr vx vy bk
  unfold dNotIn at bk
  split at bk
  · rename_i k e
    rcases in_of hr vx vy e with ⟨c, z, h1, h2, h3⟩ | ⟨p, xs, h1, h2, h3, h4, h5⟩ | ⟨d, e, h1, h2, h3, h4, h5⟩
    · exact .inl ⟨c, z, h1, h2, by rw [h3]; exact bk.val hr (.bl _)⟩
    · exact .inr (.inl ⟨p, xs, h1, h2, h3, h4, by rw [if_pos rfl, h5]; exact bk.val hr (.bl _)⟩)
    · exact .inr (.inr ⟨d, e, h1, h2, h3, h4, by rw [h5]; exact bk.val hr (.bl _)⟩)
  · exact bk.elim
/-! ### places -/
def dIx (a b : D) (h : MH) : R D := match b with
  | .int i => match a with
    | .str z => if z.length ≤ 1000000 then match atI z.cps.toList i with
      | some c => .ok (.str ⟨#[c]⟩) h
      | none => .bad else .bad
    | a => match seqOf h a with
      | some l => match atI l i with
        | some d => .ok d h
        | none => .bad
      | none => .bad
  | _ => .bad
theorem atI_of {xs : List V} {ds : List D} {i : Int} {d : D} (vs : VRs g H μ xs ds) (e : atI ds i = some d) : ∃ v, atI xs i = some v ∧ VR g H μ v d := by
  unfold atI at e ⊢
  rw [vs.length]
  cases q : ixN ds.length i with
  | none => rw [q] at e; cases e
  | some j =>
    rw [q] at e
    exact vs.get e
theorem s2_ix : S2 g (rIx g.K) dIx := by
  intro H μ h x y a b Q W hr vx vy bk
  cases vy with
  | int i =>
    cases vx with
    | str z =>
      simp only [dIx] at bk
      split at bk
      · rename_i hz
        split at bk
        · rename_i c e
          exact .inr (.inr ⟨z, i, c, rfl, rfl, sz6 hz, e, bk.val hr (.str _)⟩)
        · exact bk.elim
      · exact bk.elim
    | @tup p xs ds hs vs =>
      simp only [dIx, seqOf] at bk
      split at bk
      · rename_i d e
        obtain ⟨v, h1, h2⟩ := atI_of vs e
        exact .inr (.inl ⟨p, xs, i, v, rfl, rfl, hs.sq, h1, bk.val hr h2⟩)
      · exact bk.elim
    | @ref p j hj =>
      simp only [dIx, seqOf] at bk
      split at bk
      · rename_i l q
        obtain ⟨xs, hs, vs⟩ := hr.list hj q
        split at bk
        · rename_i d e
          obtain ⟨v, h1, h2⟩ := atI_of vs e
          exact .inl ⟨p, xs, i, v, rfl, rfl, hs, h1, bk.val hr h2⟩
        · exact bk.elim
      · exact bk.elim
    | _ => simp only [dIx, seqOf] at bk; exact bk.elim
  | _ => simp only [dIx] at bk; exact bk.elim
end
end Mi
namespace Mi
open PySem L2

/-! ### slices -/
def mNo : MP := fun _ h => .ok none h
def mSome (a : ME) : MP := fun ρ h => (a ρ h).bind fun x h1 => match x with
  | .int i => .ok (some i) h1
  | _ => .bad
def cutD (xs : List D) (lo hi : Option Int) : List D := (xs.drop (HT.sIx xs.length 0 lo)).take (HT.sIx xs.length xs.length hi - HT.sIx xs.length 0 lo)
def dSl (a : D) (lo hi : Option Int) (h : MH) : R D := match a with
  | .str z => if z.length ≤ 1000000 then .ok (.str (cutS z lo hi)) h else .bad
  | .tup l => .ok (.tup (cutD l lo hi)) h
  | .ref i => match getL h i with
    | some l => .ok (.ref h.length) (h ++ [.lst (cutD l lo hi)])
    | none => .bad
  | _ => .bad
def mSl (a : ME) (lo hi : MP) : ME := fun ρ h => (a ρ h).bind fun x h1 => (lo ρ h1).bind fun l h2 => (hi ρ h2).bind fun u h3 => dSl x l u h3
section
variable {X : Cx} {g : G} {W : WX} {a b e : Expr} {ma mb : ME} {pos p2 : Pos} {es : List Expr} {mr : MA} {lo hi : Option Expr} {ml mh : MP}
theorem sp_none : PO X none (tP g W mNo) := ⟨fun pins s σ H Q I ⟨ρ, h, μ, sr, hr, bk⟩ => (po_none (X := X)).run pins s σ H Q I (bk none H μ Mon.refl hr rfl)⟩
theorem sp_some (he : PE X e (tE g W ma)) : PO X (some e) (tP g W (mSome ma)) := ⟨fun pins s σ H Q I ⟨ρ, h, μ, sr, hr, bk⟩ => (po_some he).run pins s σ H Q I (step (rel := VR) (rel' := fun _ => opR) (ma := ma) (Q' := Q) sr hr bk fun x d h1 H1 μ1 m1 sr1 hr1 vx bk1 => by
  cases vx with
  | int i => exact ⟨i, rfl, bk1 _ H1 μ1 Mon.refl hr1 rfl⟩
  | _ => exact bk1.elim)⟩
theorem slR_or {r r' : V → Option Int → Option Int → Hp → VK → Prop} (h : SlR X r) (h' : SlR X r') : SlR X (fun x l u H Q => r x l u H Q ∨ r' x l u H Q) := by
  intro pins s σ H x v vl vu lo hi sl Q I rx hs pl pu q
  rcases q with q | q
  · exact h pins s σ H x v vl vu lo hi sl Q I rx hs pl pu q
  · exact h' pins s σ H x v vl vu lo hi sl Q I rx hs pl pu q
theorem cut_of {H : Hp} {μ : List Addr} {xs : List V} {ds : List D} (vs : VRs g H μ xs ds) (l u : Option Int) : VRs g H μ (cutV xs l u) (cutD ds l u) := by
  unfold cutV cutD
  rw [vs.length]
  exact (vs.drop _).take _
theorem cut_whole {ds : List D} {l u : Option Int} (h : HT.sIx ds.length 0 l = 0 ∧ HT.sIx ds.length ds.length u = ds.length) : cutD ds l u = ds := by
  unfold cutD
  rw [h.1, h.2]
  simp
theorem se_slice (he : PE X a (tE g W ma)) (hl : PO X lo (tP g W ml)) (hu : PO X hi (tP g W mh)) (hK : X.K = g.K := by rfl) : PE X (.Subscript a (.Slice lo hi none p2) pos) (tE g W (mSl ma ml mh)) :=
  pe_mono (pe_slice (slR_or sl_str (slR_or sl_tupF sl_list)) he hl hu) fun σ H Q ⟨ρ, h, μ, sr, hr, bk⟩ =>
    step (rel := VR) (rel' := VR) (ma := ma) (Q' := Q) sr hr bk fun x d h1 H1 μ1 m1 sr1 hr1 vx bk1 =>
      step (rel := fun _ => opR) (rel' := VR) (ma := ml) (Q' := Q) sr1 hr1 bk1 fun l l' h2 H2 μ2 m2 sr2 hr2 vl bk2 =>
        step (rel := fun _ => opR) (rel' := VR) (ma := mh) (Q' := Q) sr2 hr2 bk2 fun u u' h3 H3 μ3 m3 sr3 hr3 vu bk3 => by
          cases vl
          cases vu
          have vx3 := (vx.mono m2).mono m3
          rw [hK]
          cases vx3 with
          | str z =>
            simp only [dSl] at bk3
            split at bk3
            · rename_i hz
              exact .inl ⟨z, rfl, sz6 hz, bk3.val hr3 (.str _)⟩
            · exact bk3.elim
          | @tup p xs ds hs vs =>
            refine .inr (.inl ⟨p, xs, rfl, hs.sq, fun w => ?_, fun _ p ob hp ho => bk3.newT hr3 (cut_of vs _ _) hp ho⟩)
            rw [vs.length] at w
            rw [dSl, cut_whole w] at bk3
            exact bk3.val hr3 (.tup hs vs)
          | @ref p i hi =>
            simp only [dSl] at bk3
            split at bk3
            · rename_i l q
              obtain ⟨xs, hs, vs⟩ := hr3.list hi q
              exact .inr (.inr ⟨p, xs, rfl, hs, fun p hp => bk3.newL hr3 (cut_of vs _ _) hp⟩)
            · exact bk3.elim
          | _ => exact bk3.elim
end

/-! ### built-ins by values -/
def dLen : List D → MH → R D
  | [.str z], h => if z.length ≤ 1000000 then .ok (.int z.length) h else .bad
  | [.tup l], h => .ok (.int l.length) h
  | [.ref i], h => match getL h i with
    | some l => .ok (.int l.length) h
    | none => .bad
  | _, _ => .bad
def dAbs : List D → MH → R D
  | [.int i], h => .ok (.int (if i < 0 then -i else i)) h
  | _, _ => .bad
def dMax : List D → MH → R D
  | [.int i, .int j], h => .ok (.int (if j > i then j else i)) h
  | _, _ => .bad
def dMin : List D → MH → R D
  | [.int i, .int j], h => .ok (.int (if j < i then j else i)) h
  | _, _ => .bad
def dInt : List D → MH → R D
  | [.int i], h => .ok (.int i) h
  | [.bl b], h => .ok (.int (if b then 1 else 0)) h
  | _, _ => .bad
def dStr : List D → MH → R D
  | [.int i], h => if i.natAbs.log2 < 1920 then .ok (.str (toString i : String)) h else .bad
  | _, _ => .bad
def dList : List D → MH → R D
  | [a], h => match seqOf h a with
    | some l => .ok (.ref h.length) (h ++ [.lst l])
    | none => .bad
  | _, _ => .bad
def dTuple : List D → MH → R D
  | [a], h => match seqOf h a with
    | some l => .ok (.tup l) h
    | none => .bad
  | _, _ => .bad
def allBl : List D → Option (List Bool)
  | [] => some []
  | .bl b :: r => (allBl r).map (b :: ·)
  | _ => none
def dAny : List D → MH → R D
  | [.ref i], h => match (getL h i).bind allBl with
    | some bs => .ok (.bl (bs.any id)) h
    | none => .bad
  | _, _ => .bad
def dAll : List D → MH → R D
  | [.ref i], h => match (getL h i).bind allBl with
    | some bs => .ok (.bl (bs.all id)) h
    | none => .bad
  | _, _ => .bad
section
variable {g : G} {X : Cx}
theorem sn1 {r : List V → Hp → VK → Prop} {f : List D → MH → R D} (h1 : ∀ H μ h x a Q W, HR g H μ h → VR g H μ x a → Bk (VR g) g H μ (f [a] h) Q W → r [x] H Q) (h0 : ∀ h, f [] h = .bad) (h2 : ∀ a b l h, f (a :: b :: l) h = .bad) : SN g r f := by
  intro H μ h xs ds Q W hr vs bk
  cases vs with
  | nil => rw [h0] at bk; exact bk.elim
  | cons va t =>
    cases t with
    | nil => exact h1 H μ h _ _ Q W hr va bk
    | cons vb t => rw [h2] at bk; exact bk.elim
theorem sn_len : SN g (fun xs H Q => ∃ x n, xs = [x] ∧ LenV g.K x H n ∧ Q (.int n) H) dLen := sn1 (fun H μ h x a Q W hr va bk => by
  cases va with
  | str z =>
    simp only [dLen] at bk
    split at bk
    · rename_i hz; exact ⟨_, _, rfl, ⟨sz6 hz, rfl⟩, bk.val hr (.int _)⟩
    · exact bk.elim
  | @tup p xs ds hs vs => exact ⟨_, _, rfl, .inr ⟨xs, hs.sq, rfl⟩, by rw [vs.length]; exact bk.val hr (.int _)⟩
  | @ref p i hi =>
    simp only [dLen] at bk
    split at bk
    · rename_i l q
      obtain ⟨xs, hs, vs⟩ := hr.list hi q
      exact ⟨_, _, rfl, .inl ⟨xs, hs, rfl⟩, by rw [vs.length]; exact bk.val hr (.int _)⟩
    · exact bk.elim
  | _ => exact bk.elim) (fun _ => rfl) (fun a b l h => by simp [dLen])
theorem sn_int : SN g (fun xs H Q => (∃ i, xs = [.int i] ∧ Q (.int i) H) ∨ ∃ k, xs = [.bl k] ∧ Q (.int (if k then 1 else 0)) H) dInt := sn1 (fun H μ h x a Q W hr va bk => by
  cases va with
  | int i => exact .inl ⟨i, rfl, bk.val hr (.int _)⟩
  | bl b => exact .inr ⟨b, rfl, bk.val hr (.int _)⟩
  | _ => exact bk.elim) (fun _ => rfl) (fun a b l h => by simp [dInt])
theorem sn_tuple : SN g (rTupF g.K) dTuple := sn1 (fun H μ h x a Q W hr va bk => by
  cases va with
  | @tup p xs ds hs vs => exact ⟨p, xs, rfl, .inr ⟨hs.sq, bk.val hr (.tup hs vs)⟩⟩
  | @ref p i hi =>
    simp only [dTuple, seqOf] at bk
    split at bk
    · rename_i l q
      obtain ⟨xs, hs, vs⟩ := hr.list hi q
      exact ⟨p, xs, rfl, .inl ⟨hs, fun l ob hl ho => bk.newT hr vs hl ho⟩⟩
    · exact bk.elim
  | _ => simp only [dTuple, seqOf] at bk; exact bk.elim) (fun _ => rfl) (fun a b l h => by simp [dTuple])
theorem bls_of {H : Hp} {μ : List Addr} : ∀ {xs : List V} {ds : List D} {bs : List Bool}, VRs g H μ xs ds → allBl ds = some bs → xs = bs.map V.bl
  | _, _, _, .nil, e => by cases e; rfl
  | _, _, _, .cons (d := d) a b, e => by
    cases a with
    | bl k =>
      simp only [allBl, Option.map_eq_some_iff] at e
      obtain ⟨r, e, rfl⟩ := e
      rw [bls_of b e]; rfl
    | _ => cases e
theorem sn_all : SN g (rAll g.K) dAll := sn1 (fun H μ h x a Q W hr va bk => by
  cases va with
  | @ref p i hi =>
    simp only [dAll] at bk
    split at bk
    · rename_i bs q
      obtain ⟨l, q1, q2⟩ := Option.bind_eq_some_iff.mp q
      obtain ⟨xs, hs, vs⟩ := hr.list hi q1
      exact ⟨p, bs, rfl, by rw [← bls_of vs q2]; exact hs, bk.val hr (.bl _)⟩
    · exact bk.elim
  | _ => exact bk.elim) (fun _ => rfl) (fun a b l h => by simp [dAll])
end

/-! ### isinstance against built-in types -/
def tyName (h : MH) : D → Option String
  | .non => some "NoneType" | .bl _ => some "bool" | .int _ => some "int" | .str _ => some "str" | .tup _ => some "tuple"
  | .ref i => match h[i]? with
    | some (.lst _) => some "list"
    | some (.rol _) => some "list"
    | some (.dK _) => some "dict"
    | _ => none
  | .xo _ _ _ => none
def mIsi (T : String) (a : ME) : ME := fun ρ h => (a ρ h).bind fun x h1 => match (tyName h1 x).bind fun n => kitB n T with
  | some b => .ok (.bl b) h1
  | none => .bad
section
variable {X : Cx} {g : G} {W : WX} {a : Expr} {ma : ME} {pos : Pos}
theorem HR.ty {H : Hp} {μ : List Addr} {h : MH} {x : V} {d : D} {n : String} (hr : HR g H μ h) (vx : VR g H μ x d) (e : tyName h d = some n) : TyX g.K H x (.type n) := by
  cases vx with
  | xo _ _ _ _ => cases e
  | non => cases e; exact .base .non
  | bl b => cases e; exact .base (.bl b)
  | int i => cases e; exact .base (.int i)
  | str z => cases e; exact .base (.str z)
  | tup hs vs =>
    cases e
    rcases hs with ⟨o, _, hs⟩ | ⟨o, its, k, h1, h2, h3⟩
    · exact .fTuple hs
    · exact .kTuple h1 h2
  | ref hi =>
    simp only [tyName] at e
    split at e
    · rename_i l q
      cases e
      obtain ⟨xs, h1, _⟩ := hr.ob _ _ _ hi q
      exact .base (.lst h1)
    · rename_i l q
      cases e
      obtain ⟨xs, h1, _⟩ := hr.ob _ _ _ hi q
      rcases h1 with ⟨o, h1⟩ | ⟨o, its, k, h1, h2, h3⟩
      · exact .base (.frz h1)
      · exact .kList h1 h2
    · rename_i l q
      cases e
      obtain ⟨xs, h1, _⟩ := hr.ob _ _ _ hi q
      exact .base (.dK h1)
    · cases e
theorem se_isi {T : Str} {n : String} {p p2 : Pos} (ha : PE X a (tE g W ma)) (hm : X.mg "isinstance" = none) (hmT : X.mg T = none) (hvT : bootBuiltins T = some (.type n)) (hnT : T ≠ "__name__" := by decide) (hdT : (T == ("__debug__" : Str)) = false := by decide) (hg : Gl X "isinstance" := by rfl) (hgT : Gl X T := by rfl)
    (hK : X.K = g.K := by rfl)
    (s1 : starEach [a, .Name T p2] X.env = (false, eval a X.env) :: starEach [.Name T p2] X.env := by rfl) (s2 : starEach [.Name T p2] X.env = (false, eval (.Name T p2) X.env) :: starEach [] X.env := by rfl)
    (hpl : (backTo pos (starEach [.Name T p2] X.env)).any (·.1) = false := by rfl) : PE X (.Call (.Name "isinstance" p) [a, .Name T p2] [] pos) (tE g W (mIsi n ma)) :=
  pe_mono (pe_callB call_isi hg hm (by decide +kernel) (pa_cons ha (pa_cons (pe_bltn (v := .ty n) hgT hmT hvT rfl hnT hdT) pa_nil s2) s1) (by decide) (by decide) s1 hpl) fun σ H Q ⟨ρ, h, μ, sr, hr, bk⟩ =>
    step (rel := VR) (rel' := VR) (ma := ma) (Q' := Q) sr hr bk fun x d h1 H1 μ1 m1 sr1 hr1 vx bk1 => by
      split at bk1
      · rename_i b q
        obtain ⟨t, q1, q2⟩ := Option.bind_eq_some_iff.mp q
        refine ⟨x, .ty n, .type t, .type n, b, rfl, .ty n, ?_, kit_ty q2, bk1.val hr1 (.bl b)⟩
        rw [hK]
        exact hr1.ty vx q1
      · exact bk1.elim
end

/-! ### methods of built-in types -/
section
variable {X : Cx} {g : G} {W : WX} {o e : Expr} {mo : ME} {es : List Expr} {mr : MA} {name : Str} {apos cpos : Pos} {T id : String} {r : V → List V → Hp → VK → Prop} {f : D → List D → MH → R D} {ty : D → MH → Bool}
/-- how the type is seen -/
def STy (g : G) (T : String) (ty : D → MH → Bool) : Prop := ∀ (H : Hp) (μ : List Addr) (h : MH) (x : V) (a : D), HR g H μ h → VR g H μ x a → ty a h = true → tyV g.K T x H
theorem sty_list : STy g "list" isListD := fun H μ h x a hr va e => by
  cases va with
  | ref hi =>
    obtain ⟨l, q⟩ := Option.isSome_iff_exists.mp e
    obtain ⟨xs, hs, _⟩ := hr.list hi q
    exact .inl ⟨rfl, xs, hs⟩
  | _ => cases e
theorem sty_str : STy g "str" isStrD := fun H μ h x a hr va e => by
  cases va with
  | str z => exact (rfl : "str" = "str")
  | _ => cases e
theorem se_bm (pa : PlainAttrs T) (slot : Slot T name id) (hty : typeOf (.builtin id) = pure (.type "method_descriptor")) (hm : MtR X id r) (st : STy g T ty) (hs : SM g r f) (ho : PE X o (tE g W mo)) (ha : PA X (e :: es) (tA g W mr)) (hK : X.K = g.K := by rfl)
    (hbase : attributeBase o name X.env (eval o X.env) = eval o X.env := by rfl)
    (hfew : ((backTo cpos (starEach (e :: es) X.env)).all (fun x => !x.1) && (backToKw cpos (keywordEach [] X.env)).all (fun x => x.1.isSome)
      && decide ((e :: es).length + ([] : List Keyword).length + (if ([] : List Keyword).isEmpty then 0 else 1) < 30)) = true := by rfl)
    (hline : (apos.endLine == cpos.line) = true := by rfl) (hse : starEach (e :: es) X.env = (false, eval e X.env) :: starEach es X.env := by rfl) (hplain : (backTo cpos (starEach es X.env)).any (·.1) = false := by rfl) :
    PE X (.Call (.Attribute o name apos) (e :: es) [] cpos) (tE g W (mMeth ty f mo mr)) :=
  pe_mono (pe_bm pa slot hty hm ho ha hbase hfew hline hse hplain) fun σ H Q ⟨ρ, h, μ, sr, hr, bk⟩ =>
    step (rel := VR) (rel' := VR) (ma := mo) (Q' := Q) sr hr bk fun x d h1 H1 μ1 m1 sr1 hr1 vx bk1 => by
      split at bk1
      · rename_i ht
        refine ⟨by rw [hK]; exact st H1 μ1 h1 x d hr1 vx ht, ?_⟩
        exact step (rel := VRs) (rel' := VR) (ma := mr) (Q' := Q) sr1 hr1 bk1 fun xs ds h2 H2 μ2 m2 sr2 hr2 vs bk2 => hs H2 μ2 h2 x xs d ds Q _ hr2 (vx.mono m2) vs bk2
      · exact bk1.elim
theorem se_bm0 (pa : PlainAttrs T) (slot : Slot T name id) (hty : typeOf (.builtin id) = pure (.type "method_descriptor")) (hm : MtR X id r) (st : STy g T ty) (hs : SM g r f) (ho : PE X o (tE g W mo)) (hK : X.K = g.K := by rfl)
    (hbase : attributeBase o name X.env (eval o X.env) = eval o X.env := by rfl) (hline : (apos.endLine == cpos.line) = true := by rfl) : PE X (.Call (.Attribute o name apos) [] [] cpos) (tE g W (mMeth ty f mo mNil)) :=
  pe_mono (pe_bm0 pa slot hty hm ho hbase hline) fun σ H Q ⟨ρ, h, μ, sr, hr, bk⟩ =>
    step (rel := VR) (rel' := VR) (ma := mo) (Q' := Q) sr hr bk fun x d h1 H1 μ1 m1 sr1 hr1 vx bk1 => by
      split at bk1
      · rename_i ht
        exact ⟨by rw [hK]; exact st H1 μ1 h1 x d hr1 vx ht, hs H1 μ1 h1 x [] d [] Q _ hr1 vx .nil bk1⟩
      · exact bk1.elim
def dAppend : D → List D → MH → R D
  | .ref i, [d], h => match h[i]? with
    | some (.lst l) => if l.length < 1000000 then .ok .non (h.set i (.lst (l ++ [d]))) else .bad
    | _ => .bad
  | _, _, _ => .bad
theorem sm_append : SM g rAppend dAppend := by
  intro H μ h x xs a ds Q W hr va vs bk
  unfold dAppend at bk
  split at bk
  · rename_i i d
    cases va with
    | @ref p _ hi =>
      cases vs with
      | cons vd t =>
        cases t
        split at bk
        · rename_i l q
          split at bk
          · rename_i hl
            obtain ⟨ys, h1, h2⟩ := hr.lst hi q
            exact ⟨p, ys, _, rfl, rfl, h1, by rw [h2.length]; exact sz6' hl, bk.setL hr hi q h1 (h2.append (.one vd)) .non⟩
          · exact bk.elim
        · exact bk.elim
  · exact bk.elim
def dExtend : D → List D → MH → R D
  | .ref i, [.ref j], h => match h[i]?, h[j]? with
    | some (.lst l), some (.lst m) => if l.length + m.length ≤ 1000000 then .ok .non (h.set i (.lst (l ++ m))) else .bad
    | _, _ => .bad
  | _, _, _ => .bad
def dPop : D → List D → MH → R D
  | .ref i, [], h => match h[i]? with
    | some (.lst l) => match l[l.length - 1]? with
      | some d => .ok d (h.set i (.lst l.dropLast))
      | none => .bad
    | _ => .bad
  | _, _, _ => .bad
theorem sm_pop : SM g rPop dPop := by
  intro H μ h x xs a ds Q W hr va vs bk
  unfold dPop at bk
  split at bk
  · rename_i i
    cases va with
    | @ref p _ hi =>
      cases vs
      split at bk
      · rename_i l q
        split at bk
        · rename_i d e
          obtain ⟨ys, h1, h2⟩ := hr.lst hi q
          rw [← h2.length] at e
          obtain ⟨v, e1, e2⟩ := h2.get e
          exact ⟨p, ys, v, rfl, rfl, h1, e1, bk.setL hr hi q h1 h2.dropLast e2⟩
        · exact bk.elim
      · exact bk.elim
  · exact bk.elim
def allStr : List D → Option (List Str)
  | [] => some []
  | .str b :: r => (allStr r).map (b :: ·)
  | _ => none
theorem strs_of {H : Hp} {μ : List Addr} : ∀ {xs : List V} {ds : List D} {bs : List Str}, VRs g H μ xs ds → allStr ds = some bs → xs = bs.map V.str
  | _, _, _, .nil, e => by cases e; rfl
  | _, _, _, .cons (d := d) a b, e => by
    cases a with
    | str k =>
      simp only [allStr, Option.map_eq_some_iff] at e
      obtain ⟨r, e, rfl⟩ := e
      rw [strs_of b e]; rfl
    | _ => cases e
def dJoin : D → List D → MH → R D
  | .str a, [b], h => match (seqOf h b).bind allStr with
    | some ys => if (ys.map (·.length)).sum + ys.length * a.length ≤ 1000000 then .ok (.str (Txt.join a ys)) h else .bad
    | none => .bad
  | _, _, _ => .bad
theorem sm_join : SM g (fun x xs H Q => ∃ a p, ∃ ys : List Str, x = .str a ∧ xs = [.ref p] ∧ (SqL g.K H p (ys.map V.str) ∨ SqT g.K H p (ys.map V.str)) ∧ (ys.map (·.length)).sum + ys.length * a.length ≤ 16777216 ∧ Q (.str (Txt.join a ys)) H) dJoin := by
  intro H μ h x xs a ds Q W hr va vs bk
  unfold dJoin at bk
  split at bk
  · rename_i z b
    cases va
    cases vs with
    | @cons v _ _ _ vd t =>
      cases t
      split at bk
      · rename_i ys q
        obtain ⟨l, q1, q2⟩ := Option.bind_eq_some_iff.mp q
        have hy : ∃ p, v = .ref p := by cases vd <;> first | exact ⟨_, rfl⟩ | cases q1
        obtain ⟨p, rfl⟩ := hy
        obtain ⟨zs, h1, h2⟩ := hr.seq vd q1
        split at bk
        · rename_i c
          refine ⟨z, p, ys, rfl, rfl, ?_, by omega, bk.val hr (.str _)⟩
          rw [← strs_of h2 q2]
          exact h1
        · exact bk.elim
      · exact bk.elim
  · exact bk.elim
end
end Mi
namespace Mi
open PySem L2

/-! ### targets -/
abbrev MG := D → Slots → Option Slots
abbrev Rl := G → Hp → List Addr → V → D → Prop
/-- a pair that a walk has just laid: its items alone are known -/
def SV : Rl := fun g H μ v d => ∃ p xs ds, v = .ref p ∧ d = .tup ds ∧ SqT g.K H p xs ∧ VRs g H μ xs ds
def tGr (rl : Rl) (g : G) (m : MG) : TG := fun v σ H Q => ∃ ρ h μ d, SR g H μ σ ρ ∧ HR g H μ h ∧ rl g H μ v d ∧ match m d ρ with
  | some ρ' => ∀ σ', SR g H μ σ' ρ' → Q σ' H
  | none => False
abbrev tG (g : G) (m : MG) : TG := tGr VR g m
abbrev MGs := List D → Slots → Option Slots
def tGs (g : G) (m : MGs) : TGs := fun vs σ H Q => ∃ ρ h μ ds, SR g H μ σ ρ ∧ HR g H μ h ∧ VRs g H μ vs ds ∧ match m ds ρ with
  | some ρ' => ∀ σ', SR g H μ σ' ρ' → Q σ' H
  | none => False
def mgName (i : Nat) : MG := fun d ρ => some (ρ.set i (some d))
def mgNil : MGs := fun ds ρ => match ds with
  | [] => some ρ
  | _ => none
def mgCons (a : MG) (r : MGs) : MGs := fun ds ρ => match ds with
  | d :: ds => (a d ρ).bind fun ρ' => r ds ρ'
  | [] => none
def mgTup (r : MGs) : MG := fun d ρ => match d with
  | .tup ds => r ds ρ
  | _ => none
section
variable {X : Cx} {g : G} {pos : Pos}
theorem pg_mono {tg : Expr} {t t' : TG} (h : PG X tg t) (hm : ∀ v σ H Q, t' v σ H Q → t v σ H Q) : PG X tg t' := ⟨fun pins s σ H v u Q I r q => h.run pins s σ H v u Q I r (hm v σ H Q q)⟩
theorem pgs_mono {tg : List Expr} {t t' : TGs} (h : PGs X tg t) (hm : ∀ v σ H Q, t' v σ H Q → t v σ H Q) : PGs X tg t' := ⟨fun pins s σ H v u Q I r q => h.run pins s σ H v u Q I r (hm v σ H Q q)⟩
theorem sg_name {i : Nat} {x : Str} (hN : X.N.Nodup) (hi : X.N[i]? = some x := by rfl) (hx : Loc X.env.scope x := by first | exact Or.inl rfl | exact Or.inr rfl) (hf : X.fn x = true ∨ X.env.scope.names.lookup x = some .local := by first | exact .inl rfl | exact .inr rfl | assumption) : PG X (.Name x pos) (tG g (mgName i)) :=
  pg_mono (pg_name hN hi hx hf) fun v σ H Q ⟨ρ, h, μ, d, sr, hr, vd, q⟩ => q _ (sr.set i vd)
theorem sgs_nil : PGs X [] (tGs g mgNil) := pgs_mono pgs_nil fun vs σ H Q ⟨ρ, h, μ, ds, sr, hr, vd, q⟩ => by
  cases vd with
  | nil => exact ⟨rfl, q σ sr⟩
  | cons a b => exact q.elim
theorem sgs_cons {e : Expr} {es : List Expr} {t : MG} {u : MGs} (h1 : PG X e (tG g t)) (h2 : PGs X es (tGs g u))
    (hs : (assignEach (e :: es) X.env).map (·.2) = assign e X.env :: (assignEach es X.env).map (·.2) := by rfl) : PGs X (e :: es) (tGs g (mgCons t u)) :=
  pgs_mono (pgs_cons h1 h2 hs) fun vs σ H Q ⟨ρ, h, μ, ds, sr, hr, vd, q⟩ => by
    cases vd with
    | nil => exact q.elim
    | @cons v d vs ds a b =>
      refine ⟨v, vs, rfl, ρ, h, μ, d, sr, hr, a, ?_⟩
      simp only [mgCons] at q
      cases e : t d ρ with
      | none => rw [e] at q; exact q
      | some ρ' =>
        rw [e] at q
        exact fun σ' sr' => ⟨ρ', h, μ, ds, sr', hr, b, q⟩
/-- how many places a target has -/
def MGs.many (n : Nat) (m : MGs) : Prop := ∀ ds ρ ρ', m ds ρ = some ρ' → ds.length = n
theorem many_nil : MGs.many 0 mgNil := fun ds ρ ρ' e => by
  cases ds with
  | nil => rfl
  | cons _ _ => cases e
theorem many_cons {n : Nat} {a : MG} {r : MGs} (h : r.many n) : MGs.many (n + 1) (mgCons a r) := fun ds ρ ρ' e => by
  cases ds with
  | nil => cases e
  | cons d ds =>
    simp only [mgCons] at e
    obtain ⟨ρ1, _, e⟩ := Option.bind_eq_some_iff.mp e
    rw [List.length_cons, h ds _ _ e]
theorem sg_tup {es : List Expr} {k : Nat} {m : MGs} {n : Nat} (h : PGs X es (tGs g m)) (hm : m.many n) (hc : X.calm = true := by rfl) (hK : X.K = g.K := by rfl)
    (hn : (assignEach es X.env).length = n := by rfl) (hst : (assignEach es X.env).findIdx? (·.1) = none := by rfl) : PG X (.Tuple es k pos) (tG g (mgTup m)) :=
  pg_mono (pg_tup hc h hn hst) fun v σ H Q ⟨ρ, h, μ, d, sr, hr, vd, q⟩ => by
    cases vd with
    | @tup p xs ds hs vs =>
      simp only [mgTup] at q
      refine ⟨p, xs, rfl, by rw [hK]; exact hs.sq, ?_, ρ, h, μ, ds, sr, hr, vs, q⟩
      cases e : m ds ρ with
      | none => rw [e] at q; exact q.elim
      | some ρ' => rw [vs.length]; exact hm _ _ _ e
    | _ => exact q.elim
end

/-! ### what is walked -/
def JRr (rl : Rl) (g : G) (H0 : Hp) (μ0 : List Addr) (J : It) (a : List D × (MH → Bool)) : Prop := ∀ (i : Nat) (H : Hp) (μ : List Addr) (h : MH), Mon g H0 H μ0 μ → HR g H μ h → a.2 h = true →
  (i < a.1.length → J.go i H ∧ ∀ x H', J.yld i H x H' → ∃ d, a.1[i]? = some d ∧ Mon g H H' μ μ ∧ HR g H' μ h ∧ rl g H' μ x d) ∧ (a.1.length ≤ i → J.stop i H)
abbrev JR := JRr VR
abbrev MI := Slots → MH → R (List D × (MH → Bool))
abbrev tIr (rl : Rl) (g : G) (W : WX) (m : MI) : TI := tX (JRr rl) g W m
abbrev tI (g : G) (W : WX) (m : MI) : TI := tIr VR g W m
def yes : MH → Bool := fun _ => true
/-- the items of a list (as it stands), a tuple, a text -/
def itemsOf (a : D) (h : MH) : Option (List D × (MH → Bool)) := match a with
  | .tup l => some (l, yes)
  | .ref i => (getL h i).map fun l => (l, fun h' => decide (getL h' i = some l))
  | .str z => some (z.cps.toList.map fun c => .str ⟨#[c]⟩, yes)
  | _ => none
def mIter (a : ME) : MI := fun ρ h => (a ρ h).bind fun x h1 => match itemsOf x h1 with
  | some r => .ok r h1
  | none => .bad
def rangeD (i : Int) (n : Nat) : List D := (List.range n).map fun (k : Nat) => D.int (i + (k : Int))
def revRangeD (i : Int) (n : Nat) : List D := (List.range n).map fun (k : Nat) => D.int (i + (n : Int) - 1 - (k : Int))
def lim62 (i : Int) : Bool := decide (-(2 ^ 62) ≤ i) && decide (i < 2 ^ 62)
def dR1 (f : Int → Nat → List D) (x : D) (h : MH) : R (List D × (MH → Bool)) := match x with
  | .int j => if lim62 j = true then .ok (f 0 j.toNat, yes) h else .bad
  | _ => .bad
def dR2 (f : Int → Nat → List D) (x y : D) (h : MH) : R (List D × (MH → Bool)) := match x, y with
  | .int i, .int j => if lim62 i = true ∧ lim62 j = true then .ok (f i (j - i).toNat, yes) h else .bad
  | _, _ => .bad
def mRange1 (a : ME) : MI := fun ρ h => (a ρ h).bind fun x h1 => dR1 rangeD x h1
def mRange2 (a b : ME) : MI := fun ρ h => (a ρ h).bind fun x h1 => (b ρ h1).bind fun y h2 => dR2 rangeD x y h2
def mRev1 (a : ME) : MI := fun ρ h => (a ρ h).bind fun x h1 => dR1 revRangeD x h1
def mRev2 (a b : ME) : MI := fun ρ h => (a ρ h).bind fun x h1 => (b ρ h1).bind fun y h2 => dR2 revRangeD x y h2
section
variable {X : Cx} {g : G} {W : WX} {a b e : Expr} {ma mb : ME} {pos : Pos} {tg : Expr}
theorem pi_mono {t t' : TI} (h : PI X tg e t) (hm : ∀ σ H R, t' σ H R → t σ H R) : PI X tg e t' := ⟨fun pins s σ H R I q => h.run pins s σ H R I (hm σ H R q)⟩
theorem pi_or2 {t u : TI} (h : PI X tg e t) (h' : PI X tg e u) : PI X tg e (fun σ H R => t σ H R ∨ u σ H R) := ⟨fun pins s σ H R I q => by
  rcases q with q | q
  · exact h.run pins s σ H R I q
  · exact h'.run pins s σ H R I q⟩
theorem jr_list {H0 : Hp} {μ0 : List Addr} {p : Addr} {i : Nat} {l : List D} (hi : μ0[i]? = some p) : JR g H0 μ0 (Itl g.K p) (l, fun h' => decide (getL h' i = some l)) := fun k H μ h m hr gd => by
  have q : getL h i = some l := of_decide_eq_true gd
  obtain ⟨xs, hs, vs⟩ := hr.list (m.ix hi) q
  refine ⟨fun lt => ?_, fun le => ⟨xs, hs, by rw [vs.length]; exact le⟩⟩
  have hx : l[k]? = some l[k] := List.getElem?_eq_getElem lt
  obtain ⟨v, h1, h2⟩ := vs.get hx
  refine ⟨⟨xs, v, hs, h1⟩, fun x H' y => ?_⟩
  obtain ⟨e, y⟩ := y
  subst e
  have := y xs hs
  rw [h1] at this
  cases this
  exact ⟨_, hx, Mon.refl, hr, h2⟩
theorem jr_tup {H0 : Hp} {μ0 : List Addr} {p : Addr} {xs : List V} {l : List D} (hs : Tk g.K H0 p xs) (vs : VRs g H0 μ0 xs l) : JR g H0 μ0 (Itt g.K p) (l, yes) := fun k H μ h m hr _ => by
  have hs := (m.tups _ _ hs).sq
  have vs := vs.mono m
  refine ⟨fun lt => ?_, fun le => ⟨xs, hs, by rw [vs.length]; exact le⟩⟩
  have hx : l[k]? = some l[k] := List.getElem?_eq_getElem lt
  obtain ⟨v, h1, h2⟩ := vs.get hx
  refine ⟨⟨xs, v, hs, h1⟩, fun x H' y => ?_⟩
  obtain ⟨e, y⟩ := y
  subst e
  have := y xs hs
  rw [h1] at this
  cases this
  exact ⟨_, hx, Mon.refl, hr, h2⟩
theorem jr_str {H0 : Hp} {μ0 : List Addr} {z : Str} : JR g H0 μ0 (Its z) (z.cps.toList.map fun c => .str ⟨#[c]⟩, yes) := fun k H μ h m hr _ => by
  refine ⟨fun lt => ?_, fun le => ?_⟩
  · have lt' : k < z.cps.size := by simpa using lt
    refine ⟨lt', fun x H' y => ?_⟩
    obtain ⟨e, c, hc, ex⟩ := y
    subst e ex
    refine ⟨.str ⟨#[c]⟩, ?_, Mon.refl, hr, .str _⟩
    rw [List.getElem?_map, Array.getElem?_toList, hc]
    rfl
  · have : z.cps.size ≤ k := by simpa using le
    exact this
theorem jr_range {H0 : Hp} {μ0 : List Addr} {lo : Int} {n : Nat} : JR g H0 μ0 (Itr lo n) (rangeD lo n, yes) := fun k H μ h m hr _ => by
  refine ⟨fun lt => ?_, fun le => ?_⟩
  · have lt' : k < n := by simpa [rangeD] using lt
    refine ⟨lt', fun x H' y => ?_⟩
    obtain ⟨e, ex⟩ := y
    subst e ex
    refine ⟨.int (lo + (k : Int)), ?_, Mon.refl, hr, .int _⟩
    simp [rangeD, lt']
  · have : n ≤ k := by simpa [rangeD] using le
    exact this
theorem si_iter (he : PE X e (tE g W ma)) (hK : X.K = g.K := by rfl) : PI X tg e (tI g W (mIter ma)) :=
  pi_mono (pi_or2 (pi_list he) (pi_or2 (pi_tup he) (pi_str he))) fun σ H R ⟨ρ, h, μ, sr, hr, bk⟩ => by
    have use : ∀ (Q : VK), (∀ x d h1 H1 μ1, ma ρ h = .ok d h1 → Mon g H H1 μ μ1 → HR g H1 μ1 h1 → VR g H1 μ1 x d → Bk (JR g) g H1 μ1 (match itemsOf d h1 with | some r => Mi.R.ok r h1 | none => .bad) R (fun c d H' => W c d σ H') → Q x H1) → tE g W ma σ H Q := fun Q k =>
      ⟨ρ, h, μ, sr, hr, Bk.bind bk fun a h1 b H1 μ1 e m hr1 hv bk1 => k b a h1 H1 μ1 e m hr1 hv bk1⟩
    rw [hK]
    unfold mIter at bk
    cases e : ma ρ h with
    | bad => rw [e] at bk; exact bk.elim
    | exc x fs h' => exact .inl (use _ fun x d h1 H1 μ1 e' => by rw [e] at e'; cases e')
    | ok d h1 =>
      cases d with
      | tup l =>
        refine .inr (.inl (use _ fun x d h1 H1 μ1 e' m hr1 vx bk1 => ?_))
        rw [e] at e'
        cases e'
        cases vx with
        | @tup p xs ds hs vs => exact ⟨p, rfl, ⟨xs, hs.sq⟩, bk1 _ H1 μ1 Mon.refl hr1 (jr_tup hs vs)⟩
      | str z =>
        refine .inr (.inr (use _ fun x d h1 H1 μ1 e' m hr1 vx bk1 => ?_))
        rw [e] at e'
        cases e'
        cases vx
        exact ⟨z, rfl, bk1 _ H1 μ1 Mon.refl hr1 jr_str⟩
      | ref i =>
        refine .inl (use _ fun x d h1 H1 μ1 e' m hr1 vx bk1 => ?_)
        rw [e] at e'
        cases e'
        cases vx with
        | @ref p _ hi =>
          simp only [itemsOf] at bk1
          cases q : getL h1 i with
          | none => rw [q] at bk1; exact bk1.elim
          | some l =>
            rw [q] at bk1
            obtain ⟨xs, hs, vs⟩ := hr1.list hi q
            exact ⟨p, rfl, ⟨xs, hs⟩, bk1 _ H1 μ1 Mon.refl hr1 (jr_list hi)⟩
      | _ => rw [e] at bk; exact bk.elim
theorem lim_of {i : Int} (h : lim62 i = true) : -(2 ^ 62) ≤ i ∧ i < 2 ^ 62 := by
  unfold lim62 at h
  rw [Bool.and_eq_true] at h
  exact ⟨of_decide_eq_true h.1, of_decide_eq_true h.2⟩
theorem si_range1 {p : Pos} (hm : X.mg "range" = none) (ha : PE X a (tE g W ma)) (hg : Gl X "range" := by rfl) (hs : starEach [a] X.env = [(false, eval a X.env)] := by rfl) : PI X tg (.Call (.Name "range" p) [a] [] pos) (tI g W (mRange1 ma)) :=
  pi_mono (pi_range1 hg hm (pa_cons ha pa_nil hs) hs) fun σ H R ⟨ρ, h, μ, sr, hr, bk⟩ => step (rel := VR) (rel' := JR) (ma := ma) (Q' := R) sr hr bk fun x d h1 H1 μ1 m1 sr1 hr1 vx bk1 => by
    cases vx with
    | int j =>
      simp only [dR1] at bk1
      split at bk1
      · rename_i l
        exact ⟨j, rfl, (lim_of l).1, (lim_of l).2, bk1 _ H1 μ1 Mon.refl hr1 jr_range⟩
      · exact bk1.elim
    | _ => exact bk1.elim
end

/-! ### for -/
def forGo (gd : MH → Bool) (tg : MG) (body : MS) : List D → Slots → MH → Out
  | [], ρ, h => if gd h = true then .nx ρ h else .bad
  | d :: ds, ρ, h => if gd h = true then match tg d ρ with
    | some ρ1 => match body ρ1 h with
      | .nx ρ' h' => forGo gd tg body ds ρ' h'
      | .ct ρ' h' => forGo gd tg body ds ρ' h'
      | .bk ρ' h' => .nx ρ' h'
      | .rt d h' => .rt d h'
      | .exc x fs ρ' h' => .exc x fs ρ' h'
      | .bad => .bad
    | none => .bad else .bad
def mFor (it : MI) (tg : MG) (body : MS) : MS := fun ρ h => (it ρ h).out ρ fun a h1 => forGo a.2 tg body a.1 ρ h1
def whGo (c : MT) (body : MS) : Nat → Slots → MH → Out
  | 0, _, _ => .bad
  | n + 1, ρ, h => (c ρ h).out ρ fun b h1 => if b = true then match body ρ h1 with
    | .nx ρ' h' => whGo c body n ρ' h'
    | .ct ρ' h' => whGo c body n ρ' h'
    | .bk ρ' h' => .nx ρ' h'
    | .rt d h' => .rt d h'
    | .exc x fs ρ' h' => .exc x fs ρ' h'
    | .bad => .bad else .nx ρ h1
def mWhile (n : Nat) (c : MT) (body : MS) : MS := fun ρ h => whGo c body n ρ h
section
variable {X : Cx} {g : G} {W : WX} {pos : Pos} {tg iter : Expr} {mi : MI} {mt : MG} {mb : MS} {body : List Stmt} {rl : Rl}
theorem sx_for (hp : PassesOwn (model X.prog X.w) X.A X.env X.xe) (hi : PI X tg iter (tIr rl g W mi)) (hg : PG X tg (tGr rl g mt)) (hb : PSs X body (tS g W mb)) (hc : X.calm = true := by rfl) (hs : ∀ x, foldedSetIterable iter X.env x = pure x := by intro _; rfl) :
    PS X (.For tg iter body [] pos) (tS g W (mFor mi mt mb)) :=
  ps_mono (ps_for hp hc hi hg hb hs) fun E σ H ⟨ρ, h, μ, sr, hr, bk⟩ => stepS (rel := JRr rl) (ma := mi) (E := E) sr hr bk fun J a h1 H1 μ1 m1 sr1 hr1 jr bk1 => by
    refine ⟨fun i m σ' H' => m = a.1.length - i ∧ i ≤ a.1.length ∧ ∃ ρ' h' μ', Mon g H1 H' μ1 μ' ∧ SR g H' μ' σ' ρ' ∧ HR g H' μ' h' ∧ BkS g H' μ' (forGo a.2 mt mb (a.1.drop i) ρ' h') E W, ⟨a.1.length, by simp, Nat.zero_le _, ρ, h1, μ1, Mon.refl, sr1, hr1, by simpa using bk1⟩, ?_⟩
    rintro i m σ' H' ⟨rfl, hi, ρ', h', μ', m', sr', hr', bk'⟩
    by_cases hlt : i < a.1.length
    · have ed : a.1.drop i = a.1[i] :: a.1.drop (i + 1) := List.drop_eq_getElem_cons hlt
      rw [ed] at bk'
      unfold forGo at bk'
      split at bk'
      · rename_i gd
        obtain ⟨jg, _⟩ := jr i H' μ' h' m' hr' gd
        obtain ⟨go, yl⟩ := jg hlt
        refine .inr ⟨go, fun σ2 H2 => i + 1 ≤ a.1.length ∧ ∃ ρ2 h2 μ2, Mon g H1 H2 μ1 μ2 ∧ SR g H2 μ2 σ2 ρ2 ∧ HR g H2 μ2 h2 ∧ BkS g H2 μ2 (forGo a.2 mt mb (a.1.drop (i + 1)) ρ2 h2) E W, fun σ2 H2 q => ⟨a.1.length - (i + 1), by omega, rfl, q.1, q.2⟩, fun x Hy y => ?_⟩
        obtain ⟨d, hd, my, hry, vy⟩ := yl x Hy y
        rw [List.getElem?_eq_getElem hlt] at hd
        cases hd
        refine ⟨ρ', h', μ', _, sr'.mono my, hry, vy, ?_⟩
        split at bk'
        · rename_i ρ1 e1
          intro σ3 sr3
          refine ⟨ρ1, h', μ', sr3, hry, ?_⟩
          have mm := m'.trans my
          cases e2 : mb ρ1 h' with
          | nx ρ4 h4 => rw [e2] at bk'; exact fun σ4 H4 μ4 m4 sr4 hr4 => ⟨hlt, ρ4, h4, μ4, mm.trans m4, sr4, hr4, BkS.mono (my.trans m4) bk'⟩
          | ct ρ4 h4 => rw [e2] at bk'; exact fun σ4 H4 μ4 m4 sr4 hr4 => ⟨hlt, ρ4, h4, μ4, mm.trans m4, sr4, hr4, BkS.mono (my.trans m4) bk'⟩
          | bk ρ4 h4 => rw [e2] at bk'; exact BkS.mono my bk'
          | rt d4 h4 => rw [e2] at bk'; exact BkS.mono my bk'
          | exc x4 fs4 ρ4 h4 => rw [e2] at bk'; exact BkS.mono my bk'
          | bad => rw [e2] at bk'; exact bk'
        · exact bk'.elim
      · exact bk'.elim
    · have e : i = a.1.length := by omega
      subst e
      rw [List.drop_length] at bk'
      unfold forGo at bk'
      split at bk'
      · rename_i gd
        exact .inl ⟨(jr _ H' μ' h' m' hr' gd).2 (Nat.le_refl _), bk' σ' H' μ' Mon.refl sr' hr'⟩
      · exact bk'.elim
theorem sx_while {c : Expr} {mc : MT} (n : Nat) (hp : PassesOwn (model X.prog X.w) X.A X.env X.xe) (hc : PT X c (tT g W mc)) (hb : PSs X body (tS g W mb)) : PS X (.While c body [] pos) (tS g W (mWhile n mc mb)) :=
  ps_mono (ps_while hp hc hb) fun E σ H ⟨ρ, h, μ, sr, hr, bk⟩ => by
    refine ⟨fun m σ' H' => ∃ ρ' h' μ', SR g H' μ' σ' ρ' ∧ HR g H' μ' h' ∧ BkS g H' μ' (whGo mc mb m ρ' h') E W, ⟨n, ρ, h, μ, sr, hr, bk⟩, ?_⟩
    rintro m σ' H' ⟨ρ', h', μ', sr', hr', bk'⟩
    cases m with
    | zero => exact bk'.elim
    | succ m =>
      unfold whGo at bk'
      refine stepS (rel := fun _ => eqR) (ma := mc) (E := E) sr' hr' bk' fun b b' h1 H1 μ1 m1 sr1 hr1 vb bk1 => ?_
      cases vb
      cases b with
      | false => exact bk1 σ' H1 μ1 Mon.refl sr1 hr1
      | true =>
        refine ⟨fun σ2 H2 => ∃ ρ2 h2 μ2, SR g H2 μ2 σ2 ρ2 ∧ HR g H2 μ2 h2 ∧ BkS g H2 μ2 (whGo mc mb m ρ2 h2) E W, fun σ2 H2 q => ⟨m, Nat.lt_succ_self m, q⟩, ρ', h1, μ1, sr1, hr1, ?_⟩
        simp only [if_true] at bk1
        cases e2 : mb ρ' h1 with
        | nx ρ4 h4 => rw [e2] at bk1; exact fun σ4 H4 μ4 m4 sr4 hr4 => ⟨ρ4, h4, μ4, sr4, hr4, BkS.mono m4 bk1⟩
        | ct ρ4 h4 => rw [e2] at bk1; exact fun σ4 H4 μ4 m4 sr4 hr4 => ⟨ρ4, h4, μ4, sr4, hr4, BkS.mono m4 bk1⟩
        | bk ρ4 h4 => rw [e2] at bk1; exact bk1
        | rt d4 h4 => rw [e2] at bk1; exact bk1
        | exc x4 fs4 ρ4 h4 => rw [e2] at bk1; exact bk1
        | bad => rw [e2] at bk1; exact bk1
end

/-! ### a def by its body -/
def startD (n N : Nat) (ds : List D) : Slots := ds.map some ++ List.replicate (N - n) none
def mFun (n N : Nat) (body : MS) : List D → MH → R D := fun ds h => if ds.length = n then match body (startD n N ds) h with
  | .nx _ h' => .ok .non h'
  | .rt d h' => .ok d h'
  | .exc x fs _ h' => .exc x fs h'
  | _ => .bad else .bad
theorem spM_len {g : G} {n N : Nat} {body : MS} {vs : List V} {H : Hp} {Q : VK} {E : XK} (h : spM g (mFun n N body) vs H Q E) : vs.length = n := by
  obtain ⟨ds, hh, μ, v, hr, bk⟩ := h
  unfold mFun at bk
  split at bk
  · rename_i e; rw [v.length]; exact e
  · exact bk.elim
theorem spM_run {g : G} {ps N : List Str} {body : MS} {vs : List V} {H : Hp} {Q : VK} {E : XK} (h : spM g (mFun ps.length N.length body) vs H Q E) : tS g (fun c d _ H' => E c d H') body { nx := fun _ H' => Q .non H', rt := Q } (L2.start N vs) H := by
  have hl := spM_len h
  obtain ⟨ds, hh, μ, v, hr, bk⟩ := h
  unfold mFun at bk
  split at bk
  · rename_i e
    refine ⟨startD ps.length N.length ds, hh, μ, ?_, hr, ?_⟩
    · unfold L2.start startD
      rw [hl]
      exact SR.start _ v
    · cases q : body (startD ps.length N.length ds) hh with
      | nx ρ h' => rw [q] at bk; exact fun σ' H' μ' m sr hr' => bk .non H' μ' m hr' .non
      | rt d h' => rw [q] at bk; exact fun v H' μ' m hr' vd => bk v H' μ' m hr' vd
      | bk ρ h' => rw [q] at bk; exact bk.elim
      | ct ρ h' => rw [q] at bk; exact bk.elim
      | exc x fs ρ h' => rw [q] at bk; exact fun cls d σ' H' μ' m sr hr' xr => bk cls d H' μ' m hr' xr
      | bad => rw [q] at bk; exact bk
  · exact bk.elim
section
variable {P : Program} {w : World} {K : PySem.W.Frag} {mg : Str → Option Value} {base : Heap} {g : G}
theorem fn_mk {x qual : Str} {st : Stmt} {f : Addr} {fd : FuncData} {N ps : List Str} {k : Nat} {body : MS} (F : Fun K x qual st f fd) (S : FnScope N ps (defScope st))
    (hb : ∀ (cdv : Value) (A : Around) (outer : List Env) (s : Shared) (H : Hp) (E : XK), Room k (A.deeper (PyProof.Rows.envOfC qual (defScope st) s.heap.objs.size f cdv)) →
      PSs (cxOf (L2.CX P w) P w K mg base N qual (defScope st) f cdv A outer s H E) (defBody st) (tS g (fun c d _ H' => E c d H') body)) :
    FnOk P w K mg base (L2.CX P w) (k + 1) f fd ps (spM g (mFun ps.length N.length body)) :=
  F.okX S (fun vs H Q E h => spM_len h) fun cdv A outer s H vs Q E hr h => ⟨_, hb cdv A outer s H E hr, spM_run h⟩
theorem fn_none {f : Addr} {fd : FuncData} {ps : List Str} {k : Nat} {F : List D → MH → R D} (hF : ∀ ds h, F ds h = .bad) : FnOk P w K mg base (L2.CX P w) k f fd ps (spM g F) := by
  have no : ∀ vs H Q E, ¬ spM g F vs H Q E := fun vs H Q E ⟨ds, h, μ, _, _, bk⟩ => by rw [hF] at bk; exact bk
  exact ⟨fun vs H Q E h => absurd h (no vs H Q E), fun A outer s H args us vs Q E _ _ _ _ h => absurd h (no vs H Q E)⟩
end
end Mi
namespace Mi
open PySem L2

/-! ### list comprehensions -/
abbrev W0 : WX := fun _ _ _ _ => False
def mYes : MT := fun _ h => .ok true h
def wipeD (ρ : Slots) : List Nat → Slots
  | [] => ρ
  | v :: vs => (wipeD ρ vs).set v none
theorem SR.wipe {g : G} {H : Hp} {μ : List Addr} {σ : St} {ρ : Slots} (h : SR g H μ σ ρ) : ∀ vs : List Nat, SR g H μ (L2.wipe σ vs) (wipeD ρ vs)
  | [] => h
  | v :: vs => (SR.wipe h vs).unset v none
def lcGo (gd : MH → Bool) (tg : MG) (tt : MT) (te : ME) (c : Nat) (ρ : Slots) : List D → MH → R D
  | [], h => if gd h = true then .ok (.ref c) h else .bad
  | d :: ds, h => if gd h = true then match tg d ρ with
    | some ρ1 => match tt ρ1 h with
      | .ok false h1 => lcGo gd tg tt te c ρ ds h1
      | .ok true h1 => match te ρ1 h1 with
        | .ok y h2 => match h2[c]? with
          | some (.lst acc) => if acc.length < 1000000 then lcGo gd tg tt te c ρ ds (h2.set c (.lst (acc ++ [y]))) else .bad
          | _ => .bad
        | _ => .bad
      | _ => .bad
    | none => .bad else .bad
def mLc (it : MI) (tg : MG) (tt : MT) (te : ME) (vs : List Nat) : ME := fun ρ h => (it ρ h).bind fun a h1 => lcGo a.2 tg tt te h1.length (wipeD ρ vs) a.1 (h1 ++ [.lst []])
/-- a target by its very slots -/
structure TgOk (rl : Rl) (g : G) (t : TG) (m : MG) (vs : List Nat) : Prop where
  run : ∀ (v : V) (d : D) (σ : St) (ρ : Slots) (H : Hp) (μ : List Addr) (h : MH) (Q : St → Hp → Prop), HR g H μ h → rl g H μ v d → SR g H μ (L2.wipe σ vs) ρ →
    match m d ρ with
    | some ρ' => (∀ σ', SR g H μ σ' ρ' → L2.wipe σ' vs = L2.wipe σ vs → Q σ' H) → t v (L2.wipe σ vs) H Q
    | none => True
theorem tg_name {g : G} (j : Nat) : TgOk VR g (gName j) (mgName j) [j] := ⟨fun v d σ ρ H μ h Q hr vd sr => by
  intro k
  refine k _ (sr.set j vd) ?_
  show ((σ.set j none).set j (some v)).set j none = σ.set j none
  rw [List.set_set, List.set_set]⟩
theorem tg_pair0 {g : G} {j k : Nat} (hjk : j ≠ k) {v : V} {d : D} {σ : St} {ρ : Slots} {H : Hp} {μ : List Addr} {Q : St → Hp → Prop} {p : Addr} {xs : List V} {ds : List D} (hs : SqT g.K H p xs) (vs : VRs g H μ xs ds) (sr : SR g H μ (L2.wipe σ [j, k]) ρ) :
    match mgTup (mgCons (mgName j) (mgCons (mgName k) mgNil)) (.tup ds) ρ with
    | some ρ' => (∀ σ', SR g H μ σ' ρ' → L2.wipe σ' [j, k] = L2.wipe σ [j, k] → Q σ' H) → gTup g.K 2 (gCons (gName j) (gCons (gName k) gNil)) (.ref p) (L2.wipe σ [j, k]) H Q
    | none => True := by
  cases vs with
  | nil => trivial
  | cons a b =>
    cases b with
    | nil => trivial
    | cons b c =>
      cases c with
      | cons _ _ => trivial
      | nil =>
        rename_i x dx y dy
        show (∀ σ', SR g H μ σ' ((ρ.set j (some dx)).set k (some dy)) → L2.wipe σ' [j, k] = L2.wipe σ [j, k] → Q σ' H) → _
        intro q
        refine ⟨p, _, rfl, hs, rfl, _, _, rfl, _, _, rfl, rfl, ?_⟩
        refine q _ ((sr.set j a).set k b) ?_
        show ((((((σ.set k none).set j none).set j (some x)).set k (some y)).set k none).set j none) = (σ.set k none).set j none
        rw [List.set_set, List.set_set, List.set_comm _ _ (Ne.symm hjk), List.set_set, List.set_comm none none hjk, List.set_set]
theorem tg_pairZ {g : G} {j k : Nat} (hjk : j ≠ k) : TgOk SV g (gTup g.K 2 (gCons (gName j) (gCons (gName k) gNil))) (mgTup (mgCons (mgName j) (mgCons (mgName k) mgNil))) [j, k] := ⟨fun v d σ ρ H μ h Q hr vd sr => by
  obtain ⟨p, xs, ds, rfl, rfl, hs, vs⟩ := vd
  exact tg_pair0 hjk (v := .non) (d := .non) hs vs sr⟩
section
variable {g : G} {W : WX} {mi : MI} {mt : MG} {tt : MT} {te : ME} {t : TG} {vs : List Nat} {rl : Rl}
theorem lc_of (ht : TgOk rl g t mt vs) {σ : St} {H : Hp} {Q : VK} (q : tE g W (mLc mi mt tt te vs) σ H Q) : tLc (tIr rl g W mi) t (tT g W0 tt) (tE g W0 te) vs σ H Q := by
  obtain ⟨ρ, h, μ, sr, hr, bk⟩ := q
  refine step (rel := JRr rl) (rel' := VR) (ma := mi) (Q' := Q) sr hr bk fun J a h1 H1 μ1 m1 sr1 hr1 jr bk1 Dd hD => ?_
  have mD : Mon g H1 (upd H1 Dd (.lst [])) μ1 (μ1 ++ [Dd]) := mon_push hD
  refine ⟨fun i m H' => m = a.1.length - i ∧ i ≤ a.1.length ∧ ∃ h' μ', Mon g H1 H' μ1 μ' ∧ μ'[h1.length]? = some Dd ∧ HR g H' μ' h' ∧ Bk (VR g) g H' μ' (lcGo a.2 mt tt te h1.length (wipeD ρ vs) (a.1.drop i) h') Q (fun c d H' => W c d σ H'),
    ⟨a.1.length, by simp, Nat.zero_le _, h1 ++ [.lst []], μ1 ++ [Dd], mD, ix_push hr1.len, hr1.push (u := .lst []) hD ⟨[], upd_same, .nil⟩, Bk.mono mD (by simpa using bk1)⟩, ?_⟩
  rintro i m H' ⟨rfl, hi, h', μ', m', hc, hr', bk'⟩
  by_cases hlt : i < a.1.length
  · have ed : a.1.drop i = a.1[i] :: a.1.drop (i + 1) := List.drop_eq_getElem_cons hlt
    rw [ed] at bk'
    unfold lcGo at bk'
    split at bk'
    · rename_i gd
      obtain ⟨jg, _⟩ := jr i H' μ' h' m' hr' gd
      obtain ⟨go, yl⟩ := jg hlt
      refine .inr ⟨go, fun H2 => i + 1 ≤ a.1.length ∧ ∃ h2 μ2, Mon g H1 H2 μ1 μ2 ∧ μ2[h1.length]? = some Dd ∧ HR g H2 μ2 h2 ∧ Bk (VR g) g H2 μ2 (lcGo a.2 mt tt te h1.length (wipeD ρ vs) (a.1.drop (i + 1)) h2) Q (fun c d H' => W c d σ H'), fun H2 q => ⟨a.1.length - (i + 1), by omega, rfl, q.1, q.2⟩, fun x Hy y => ?_⟩
      obtain ⟨d, hd, my, hry, vy⟩ := yl x Hy y
      rw [List.getElem?_eq_getElem hlt] at hd
      cases hd
      have mm := m'.trans my
      have srw : SR g Hy μ' (L2.wipe σ vs) (wipeD ρ vs) := (sr1.mono mm).wipe vs
      have tr := ht.run x a.1[i] σ (wipeD ρ vs) Hy μ' h' (fun σ2 H2 => L2.wipe σ2 vs = L2.wipe σ vs ∧ tT g W0 tt σ2 H2 fun b H3 => if b = true then tE g W0 te σ2 H3 fun y H4 => ∃ acc, H4 Dd = some (.lst acc) ∧ acc.length < sizeLine ∧ (i + 1 ≤ a.1.length ∧ ∃ h2 μ2, Mon g H1 (upd H4 Dd (.lst (acc ++ [y]))) μ1 μ2 ∧ μ2[h1.length]? = some Dd ∧ HR g (upd H4 Dd (.lst (acc ++ [y]))) μ2 h2 ∧ Bk (VR g) g (upd H4 Dd (.lst (acc ++ [y]))) μ2 (lcGo a.2 mt tt te h1.length (wipeD ρ vs) (a.1.drop (i + 1)) h2) Q (fun c d H' => W c d σ H')) else (i + 1 ≤ a.1.length ∧ ∃ h2 μ2, Mon g H1 H3 μ1 μ2 ∧ μ2[h1.length]? = some Dd ∧ HR g H3 μ2 h2 ∧ Bk (VR g) g H3 μ2 (lcGo a.2 mt tt te h1.length (wipeD ρ vs) (a.1.drop (i + 1)) h2) Q (fun c d H' => W c d σ H'))) hry vy srw
      split at bk'
      · rename_i ρ1 e1
        rw [e1] at tr
        refine tr fun σ2 sr2 ew => ⟨ew, ρ1, h', μ', sr2, hry, ?_⟩
        cases e2 : tt ρ1 h' with
        | bad => rw [e2] at bk'; exact bk'.elim
        | exc x fs h3 => rw [e2] at bk'; exact bk'.elim
        | ok b h3 =>
          rw [e2] at bk'
          intro b' H3 μ3 m3 hr3 eb
          cases eb
          cases b with
          | false => exact ⟨hlt, h3, μ3, mm.trans m3, m3.ix hc, hr3, Bk.mono (my.trans m3) bk'⟩
          | true =>
            refine ⟨ρ1, h3, μ3, sr2.mono m3, hr3, ?_⟩
            simp only at bk'
            cases e3 : te ρ1 h3 with
            | bad => rw [e3] at bk'; exact bk'.elim
            | exc x fs h4 => rw [e3] at bk'; exact bk'.elim
            | ok y h4 =>
              rw [e3] at bk'
              intro yv H4 μ4 m4 hr4 vyv
              simp only at bk'
              split at bk'
              · rename_i acc ea
                split at bk'
                · rename_i hl
                  have hc4 : μ4[h1.length]? = some Dd := m4.ix (m3.ix hc)
                  obtain ⟨xs, hx, vx⟩ := hr4.lst hc4 ea
                  have m5 : Mon g H4 (upd H4 Dd (.lst (xs ++ [yv]))) μ4 μ4 := (Saf.lst hx).mon
                  exact ⟨xs, hx, by rw [vx.length]; exact sz6' hl, hlt, _, μ4, ((mm.trans m3).trans m4).trans m5, hc4,
                    hr4.write (u := .lst (acc ++ [y])) hc4 ea rfl (Saf.lst hx) rfl ⟨_, upd_same, (vx.append (.one vyv)).mono m5⟩, Bk.mono (((my.trans m3).trans m4).trans m5) bk'⟩
                · exact bk'.elim
              · exact bk'.elim
      · exact bk'.elim
    · exact bk'.elim
  · have e : i = a.1.length := by omega
    subst e
    rw [List.drop_length] at bk'
    unfold lcGo at bk'
    split at bk'
    · rename_i gd
      exact .inl ⟨(jr _ H' μ' h' m' hr' gd).2 (Nat.le_refl _), bk' _ H' μ' Mon.refl hr' (.ref hc)⟩
    · exact bk'.elim
end
section
variable {X : Cx} {g : G} {W : WX} {elt tg iter : Expr} {ifs : List Expr} {scope : Scope} {own : List (Str × Nat)} {pos spos py : Pos} {mi : MI} {mt : MG} {tt : MT} {te : ME} {t : TG} {rl : Rl}
theorem st_nil {Y : Cx} : PTs Y [] (tT g W0 mYes) := ⟨fun pins s σ H Q I ⟨ρ, h, μ, sr, hr, bk⟩ => (pts_nil (X := Y)).run pins s σ H Q I (bk true H μ Mon.refl hr rfl)⟩
theorem se_lc (hN : X.N.Nodup) (hi : PI X tg iter (tIr rl g W mi)) (ok : BlkOk X.N X.env.scope scope own) (ht : TgOk rl g t mt (own.map (·.2)))
    (hg : ∀ (s : Shared) (H : Hp) (C : Addr) (cl : List (Str × Addr)) (fp : List Addr), PG (X.blk s H scope (PySem.compEnvC scope cl C X.env) fp) tg t) (hts : ∀ (s : Shared) (H : Hp) (C : Addr) (cl : List (Str × Addr)) (fp : List Addr), PTs (X.blk s H scope (PySem.compEnvC scope cl C X.env) fp) ifs (tT g W0 tt))
    (he : ∀ (s : Shared) (H : Hp) (C : Addr) (cl : List (Str × Addr)) (fp : List Addr), PE (X.blk s H scope (PySem.compEnvC scope cl C X.env) fp) elt (tE g W0 te)) (hc : X.calm = true := by rfl) (hs : ∀ x, foldedSetIterable iter X.env x = pure x := by intro _; rfl) :
    PE X (.ListComp elt [⟨tg, iter, ifs, 0⟩] scope pos) (tE g W (mLc mi mt tt te (own.map (·.2)))) :=
  pe_mono (pe_lc hc hN hi ok hg hts he hs) fun σ H Q q => lc_of ht q
theorem sx_setLc {i : Nat} {y : Str} (hN : X.N.Nodup) (hi : PI X tg iter (tIr rl g W mi)) (ok : BlkOk X.N X.env.scope scope own) (ht : TgOk rl g t mt (own.map (·.2)))
    (hg : ∀ (s : Shared) (H : Hp) (C : Addr) (cl : List (Str × Addr)) (fp : List Addr), PG (X.blk s H scope (PySem.compEnvC scope cl C X.env) fp) tg t) (hts : ∀ (s : Shared) (H : Hp) (C : Addr) (cl : List (Str × Addr)) (fp : List Addr), PTs (X.blk s H scope (PySem.compEnvC scope cl C X.env) fp) ifs (tT g W0 tt))
    (he : ∀ (s : Shared) (H : Hp) (C : Addr) (cl : List (Str × Addr)) (fp : List Addr), PE (X.blk s H scope (PySem.compEnvC scope cl C X.env) fp) elt (tE g W0 te))
    (hy : X.N[i]? = some y := by rfl) (hyl : X.env.scope.names.lookup y = some .local := by rfl) (hsw : swapsWith (.ListComp elt [⟨tg, iter, ifs, 0⟩] scope pos) (some (.Name y py)) spos.line X.env = pure true := by exact sw_true rfl rfl rfl (by decide +kernel))
    (hc : X.calm = true := by rfl) (hs : ∀ x, foldedSetIterable iter X.env x = pure x := by intro _; rfl) :
    PS X (.Assign [.Name y py] (.ListComp elt [⟨tg, iter, ifs, 0⟩] scope pos) spos) (tS g W (mAsg i (mLc mi mt tt te (own.map (·.2))))) :=
  ps_mono (ps_setLc hc hN hy hyl hsw hi ok hg hts he hs) fun E σ H ⟨ρ, h, μ, sr, hr, bk⟩ => lc_of ht (W := W) (stepS (W := W) (rel := VR) (ma := mLc mi mt tt te (own.map (fun p : Str × Nat => p.2))) (f := fun d h1 => .nx (ρ.set i (some d)) h1) (E := E) sr hr bk fun v d h1 H1 μ1 m1 sr1 hr1 vx bk1 => bk1 _ H1 μ1 Mon.refl (sr1.set i vx) hr1)
end

/-! ### stores to places, to several names -/
def dSet (x y d : D) (h : MH) : R Unit := match x, y with
  | .ref i, .int k => match h[i]? with
    | some (.lst l) => match ixN l.length k with
      | some j => .ok () (h.set i (.lst (l.set j d)))
      | none => .bad
    | _ => .bad
  | _, _ => .bad
def mSetIx (o i e : ME) : MS := fun ρ h => (e ρ h).out ρ fun d h1 => (o ρ h1).out ρ fun x h2 => (i ρ h2).out ρ fun y h3 => (dSet x y d h3).out ρ fun _ h4 => .nx ρ h4
def mAsgT (m : MG) (e : ME) : MS := fun ρ h => (e ρ h).out ρ fun d h1 => match m d ρ with
  | some ρ' => .nx ρ' h1
  | none => .bad
section
variable {X : Cx} {g : G} {W : WX} {o i e tg : Expr} {mo mi me : ME} {pos p2 : Pos} {mt : MG}
theorem sx_setT (he : PE X e (tE g W me)) (hg : PG X tg (tG g mt)) (hs : swapsWithSole [tg] e pos.line X.env = pure false := by rfl) (hw : swappedStores [tg] e X.env = pure none := by rfl)
    (h1 : (assignEach [tg] X.env).map (·.2) = [assign tg X.env] := by rfl) : PS X (.Assign [tg] e pos) (tS g W (mAsgT mt me)) :=
  ps_mono (ps_asg he hg hs hw h1) fun E σ H ⟨ρ, h, μ, sr, hr, bk⟩ => stepS (rel := VR) (ma := me) (E := E) sr hr bk fun v d h1 H1 μ1 m1 sr1 hr1 vd bk1 => by
    refine ⟨ρ, h1, μ1, d, sr1, hr1, vd, ?_⟩
    split at bk1
    · rename_i ρ' e'
      (try rw [e'])
      exact fun σ' sr' => bk1 σ' H1 μ1 Mon.refl sr' hr1
    · exact bk1.elim
end

/-! ### the end of a law -/
def cmOf (K : PySem.W.Frag) : Str → Option Addr := fun x => match PySem.W.nsIn K mainGlobals x with
  | some (some (.ref C)) => some C
  | _ => none
abbrev gOf (w : World) (K : PySem.W.Frag) : G := ⟨K, cmOf K, w⟩
theorem vrs_ints {g : G} {H : Hp} {μ : List Addr} : ∀ ns : List Int, VRs g H μ (ns.map V.int) (ns.map D.int)
  | [] => .nil
  | n :: ns => .cons (.int n) (vrs_ints ns)
theorem law_start {K : PySem.W.Frag} {F : List D → MH → R D} {H : Hp} {a : Addr} {ns : List Int} {h' : MH} (hO : Only H) (hS : SqL K H a (ns.map V.int)) (hF : F [.ref 0] [.rol (ns.map D.int)] = .ok (.bl true) h') :
    spM (gOf w K) F [.ref a] H (fun v _ => v = .bl true) fun _ _ _ => False := by
  refine ⟨[.ref 0], [.rol (ns.map D.int)], [a], .cons (.ref rfl) .nil, ⟨rfl, fun i p o hi ho => ?_, fun i j p o u hi hj ho hu m1 m2 => ?_⟩, ?_⟩
  · cases i with
    | succ i => simp at hi
    | zero =>
      simp at hi ho
      subst hi ho
      refine ⟨ns.map V.int, ?_, vrs_ints ns⟩
      rcases hS with (h | h) | h
      · rcases hO a with z | ⟨o, xs, z⟩
        · rw [h] at z; cases z
        · rw [h] at z; cases z
      · exact .inl h
      · exact .inr h
  · cases i with
    | succ i => simp at hi
    | zero => cases j with
      | succ j => simp at hj
      | zero => rfl
  · rw [hF]
    intro v H' μ' m hr hv
    cases hv
    rfl
theorem law_end {l : PySem.W.OpenLaw} {k : Nat} {q : Program} {loose : List Str} {XP : (Str → Option Value) → Heap → Prop} {YP : World → Heap → Prop} {d : DefRec} {K : Params → PySem.W.Frag} {x : Str} {F : List D → MH → R D}
    (hF : ∀ ns : List Int, ns.length ≤ 63 → (∀ z ∈ ns, Builtin.Int.intBits z ≤ 1048576) → ∃ h', F [.ref 0] [.rol (ns.map D.int)] = .ok (.bl true) h')
    (hn : l.most = some 63) (hdf : d.params.defaults = []) (hr : Room k PySem.callerA)
    (hY : ∀ (w : World) (h : Heap), YP w h → (K w.params).In h)
    (FF : ∀ (w : World) (mg : Str → Option Value) (fa : Addr) (h : Heap), (K w.params).In h → h.Ns mainGlobals mg → mg d.name = some (.ref fa) →
      ∃ fd : FuncData, (∀ (s : Shared) (u : Value), BindsTo s fd ⟨[u], []⟩ [(x, u)]) ∧
        ∀ base : Heap, (K w.params).In base → base.Ns mainGlobals mg → FnOk l.prog w (K w.params) mg base (L2.CX l.prog w) k fa fd [x] (spM (gOf w (K w.params)) F)) :
    PySem.W.WalkO q loose XP YP l.row.toRowW d [] (fun f vs => PySem.call f vs) :=
  walk_ofB (n := 63) (k := k) (x := x) (CX := fun w => L2.CX l.prog w) (sp := fun w => spM (gOf w (K w.params)) F) hn (by decide) hdf hr hY FF
    (fun w H a ns h1 h2 hO hS => let ⟨h', e⟩ := hF ns h1 h2; law_start hO hS e)
    fun w H s e s' c => by
      obtain ⟨_, _, _, _, _, _, _, _, _, _, _, _, z⟩ := c
      exact z
end Mi
namespace Mi
open PySem L2

/-! ### dict displays of no pair, of one -/
def keyD : D → Option Key
  | .int i => some (.inl i)
  | .str x => some (.inr x)
  | _ => none
def mDict0 : ME := fun _ h => .ok (.ref h.length) (h ++ [.dK []])
def mDict1 (k v : ME) : ME := fun ρ h => (k ρ (h ++ [.dK []])).bind fun x h1 => (v ρ h1).bind fun y h2 => if h2[h.length]? = some (.dK []) then match keyD x with
  | some kk => .ok (.ref h.length) (h2.set h.length (.dK [(kk, y)]))
  | none => .bad else .bad
section
variable {X : Cx} {g : G} {W : WX} {k v : Expr} {mk mv : ME} {pos : Pos}
theorem se_dict0 : PE X (.Dict [] [] pos) (tE g W mDict0) := pe_mono pe_dnewK fun σ H Q ⟨ρ, h, μ, sr, hr, bk⟩ p hp =>
  bk _ _ (μ ++ [p]) (mon_push hp) (hr.push (u := .dK []) hp ⟨[], upd_same, .nil⟩) (.ref (ix_push hr.len))
theorem keyD_of {H : Hp} {μ : List Addr} {x : V} {d : D} {kk : Key} (vx : VR g H μ x d) (e : keyD d = some kk) : x = kV kk := by
  cases vx <;> cases e <;> rfl
end
/-! ### a < b < c -/
def mChain (f f' : D → D → MH → R D) (a b c : ME) : ME := fun ρ h => (a ρ h).bind fun x h1 => (b ρ h1).bind fun y h2 => (f x y h2).bind fun z h3 => match z with
  | .bl true => (c ρ h3).bind fun w h4 => f' y w h4
  | .bl false => .ok (.bl false) h3
  | _ => .bad
section
variable {X : Cx} {g : G} {W : WX} {a b c : Expr} {ma mb mc : ME} {pos : Pos} {r r' : R2} {f f' : D → D → MH → R D} {op op' : CmpOp}
end

/-! ### defs by their names -/
/-- a def of the top, as it stands: its text, its parameters -/
def Df (K : PySem.W.Frag) (mg : Str → Option Value) (x : Str) (st : Stmt) (ps : List Str) : Prop := ∃ f fd, Fun K x x st f fd ∧ mg x = some (.ref f) ∧ Binds K fd ps []
/-- a def that does what F says, by at most k calls deep -/
def Cal (P : Program) (w : World) (K : PySem.W.Frag) (mg : Str → Option Value) (base : Heap) (x : Str) (k : Nat) (F : List D → MH → R D) : Prop :=
  ∃ f fd ps, FnOk P w K mg base (L2.CX P w) k f fd ps (spM (gOf w K) F) ∧ mg x = some (.ref f) ∧ PySem.W.keepIn K (.ref f) = true ∧ Binds K fd ps []
section
variable {P : Program} {w : World} {K : PySem.W.Frag} {mg : Str → Option Value} {base : Heap}
theorem df_mk {h : Heap} {x : Str} {st : Stmt} {ps : List Str} {f : Addr} {oc : Value} {od an : Option Addr} {osl : Array (Option Value)} {kV doc pm cdv ct : Value} (X : K.In h) (G : h.Ns mainGlobals mg)
    (a : PySem.W.nsIn K mainGlobals x = some (some (.ref f))) (l : K.lookup f = some ⟨oc, od, .func (PySem.W.fnOf x x (defArgs st) (defBody st) (defScope st) .none kV doc pm an cdv ct), osl⟩)
    (c : PySem.W.codeIn K cdv x = true) (k : PySem.W.keepIn K (.ref f) = true)
    (hb : ∀ (kV doc pm : Value) (an : Option Addr) (cdv ct : Value) (us : List Value), us.length = ps.length → bindArgs (PySem.W.fnOf x x (defArgs st) (defBody st) (defScope st) .none kV doc pm an cdv ct) ⟨us, []⟩ = pure (ps.zip us)) : Df K mg x st ps := by
  have F := fun_mk (st := st) l c k
  exact ⟨f, _, F, PySem.W.mg_of X G a, F.binds hb⟩
theorem Cal.mono {x : Str} {j k : Nat} {F : List D → MH → R D} (c : Cal P w K mg base x j F) (h : j ≤ k) : Cal P w K mg base x k F := by
  obtain ⟨f, fd, ps, F1, m, kp, b⟩ := c
  exact ⟨f, fd, ps, F1.mono h, m, kp, b⟩
theorem cal_mk {x : Str} {st : Stmt} {N ps : List Str} {k : Nat} {body : MS} (d : Df K mg x st ps) (S : FnScope N ps (defScope st))
    (hb : ∀ (f : Addr) (cdv : Value) (A : Around) (outer : List Env) (s : Shared) (H : Hp) (E : XK), Room k (A.deeper (PyProof.Rows.envOfC x (defScope st) s.heap.objs.size f cdv)) →
      PSs (cxOf (L2.CX P w) P w K mg base N x (defScope st) f cdv A outer s H E) (defBody st) (tS (gOf w K) (fun c d _ H' => E c d H') body)) : Cal P w K mg base x (k + 1) (mFun ps.length N.length body) := by
  obtain ⟨f, fd, F, m, b⟩ := d
  exact ⟨f, fd, ps, fn_mk F S (hb f), m, F.kp, b⟩
theorem cal_none {x : Str} {st : Stmt} {ps : List Str} {k : Nat} {F : List D → MH → R D} (d : Df K mg x st ps) (hF : ∀ ds h, F ds h = .bad) : Cal P w K mg base x k F := by
  obtain ⟨f, fd, F, m, b⟩ := d
  exact ⟨f, fd, ps, fn_none hF, m, F.kp, b⟩
end
section
variable {X : Cx} {W : WX} {e : Expr} {es : List Expr} {mr : MA} {p pos : Pos}
theorem se_callC {x : Str} {k : Nat} {F : List D → MH → R D} (c : Cal X.prog X.w X.K X.mg X.base x k F) (hr : Room k X.A) (tk : Takes X W) (ha : PA X (e :: es) (tA (gOf X.w X.K) W mr)) (hg : Gl X x := by rfl) (hdb : (x == ("__debug__" : Str)) = false := by decide)
    (he : starEach (e :: es) X.env = (false, eval e X.env) :: starEach es X.env := by rfl) (hpl : (backTo pos (starEach es X.env)).any (·.1) = false := by rfl) : PE X (.Call (.Name x p) (e :: es) [] pos) (tE (gOf X.w X.K) W (mCall F mr)) := by
  obtain ⟨f, fd, ps, F1, m, kp, b⟩ := c
  exact se_call F1 hr tk m kp b ha hg hdb he hpl
end
end Mi

/-! How the mirror's parts are reckoned, step by step: each rule speaks of a part that stands applied to its slots and heap, and leaves what follows unapplied. -/
namespace Mi
open PySem L2

/-- not by rfl, so that simp writes each step out (the kernel then needs no unfolding of the rest) -/
theorem nr {α : Sort _} {a b : α} (h : a = b) : a = b := h
@[simp] theorem mVar_zero (d : D) (r : Slots) (h : MH) : mVar 0 (some d :: r) h = .ok d h := nr rfl
@[simp] theorem mVar_succ (n : Nat) (o : Option D) (r : Slots) (h : MH) : mVar (n + 1) (o :: r) h = mVar n r h := nr rfl
@[simp] theorem mC_ev (d : D) (ρ : Slots) (h : MH) : mC d ρ h = .ok d h := nr rfl
def bin2 (f : D → D → MH → R D) (b : ME) (ρ : Slots) (r : R D) : R D := r.bind fun x h1 => (b ρ h1).bind fun y h2 => f x y h2
def bin1 (f : D → D → MH → R D) (x : D) (r : R D) : R D := r.bind fun y h2 => f x y h2
@[simp] theorem mBin_ev (f : D → D → MH → R D) (a b : ME) (ρ : Slots) (h : MH) : mBin f a b ρ h = bin2 f b ρ (a ρ h) := nr rfl
@[simp] theorem bin2_ok (f : D → D → MH → R D) (b : ME) (ρ : Slots) (x : D) (h : MH) : bin2 f b ρ (.ok x h) = bin1 f x (b ρ h) := nr rfl
@[simp] theorem bin1_ok (f : D → D → MH → R D) (x y : D) (h : MH) : bin1 f x (.ok y h) = f x y h := nr rfl
def un1 (f : D → MH → R D) : R D → R D
  | .ok y h2 => f y h2
  | .exc x fs h => .exc x fs h
  | .bad => .bad
@[simp] theorem mUn_ev (f : D → MH → R D) (a : ME) (ρ : Slots) (h : MH) : mUn f a ρ h = un1 f (a ρ h) := by
  unfold mUn un1
  cases a ρ h <;> rfl
@[simp] theorem un1_ok (f : D → MH → R D) (x : D) (h : MH) : un1 f (.ok x h) = f x h := nr rfl
@[simp] theorem mNil_ev (ρ : Slots) (h : MH) : mNil ρ h = .ok [] h := nr rfl
def cons1 (t : MA) (ρ : Slots) (r : R D) : R (List D) := r.bind fun x h1 => (t ρ h1).bind fun xs h2 => .ok (x :: xs) h2
def cons2 (x : D) (r : R (List D)) : R (List D) := r.bind fun xs h2 => .ok (x :: xs) h2
@[simp] theorem mCons_ev (a : ME) (r : MA) (ρ : Slots) (h : MH) : mCons a r ρ h = cons1 r ρ (a ρ h) := nr rfl
@[simp] theorem cons1_ok (r : MA) (ρ : Slots) (x : D) (h : MH) : cons1 r ρ (.ok x h) = cons2 x (r ρ h) := nr rfl
@[simp] theorem cons2_ok (x : D) (xs : List D) (h : MH) : cons2 x (.ok xs h) = .ok (x :: xs) h := nr rfl
def call1 (F : List D → MH → R D) : R (List D) → R D
  | .ok xs h1 => F xs h1
  | .exc x fs h => .exc x fs h
  | .bad => .bad
@[simp] theorem mCall_ev (F : List D → MH → R D) (a : MA) (ρ : Slots) (h : MH) : mCall F a ρ h = call1 F (a ρ h) := by
  unfold mCall call1
  cases a ρ h <;> rfl
@[simp] theorem call1_ok (F : List D → MH → R D) (xs : List D) (h : MH) : call1 F (.ok xs h) = F xs h := nr rfl
def tup1 : R (List D) → R D
  | .ok xs h1 => if xs.length ≤ 1000000 then .ok (.tup xs) h1 else .bad
  | .exc x fs h => .exc x fs h
  | .bad => .bad
@[simp] theorem mTup_ev (a : MA) (ρ : Slots) (h : MH) : mTup a ρ h = tup1 (a ρ h) := by
  unfold mTup tup1
  cases a ρ h <;> rfl
@[simp] theorem tup1_ok (xs : List D) (h : MH) : tup1 (.ok xs h) = if xs.length ≤ 1000000 then .ok (.tup xs) h else .bad := nr rfl
def lst1 : R (List D) → R D
  | .ok xs h1 => if xs.length ≤ 1000000 then .ok (.ref h1.length) (h1 ++ [.lst xs]) else .bad
  | .exc x fs h => .exc x fs h
  | .bad => .bad
@[simp] theorem mLst_ev (a : MA) (ρ : Slots) (h : MH) : mLst a ρ h = lst1 (a ρ h) := by
  unfold mLst lst1
  cases a ρ h <;> rfl
@[simp] theorem lst1_ok (xs : List D) (h : MH) : lst1 (.ok xs h) = if xs.length ≤ 1000000 then .ok (.ref h.length) (h ++ [.lst xs]) else .bad := nr rfl
/-! tests -/
def b1 : R D → R Bool
  | .ok (.bl b) h => .ok b h
  | .ok _ _ => .bad
  | .exc x fs h => .exc x fs h
  | .bad => .bad
@[simp] theorem mB_ev (a : ME) (ρ : Slots) (h : MH) : mB a ρ h = b1 (a ρ h) := by
  unfold mB b1
  cases a ρ h with
  | ok x h1 => cases x <;> rfl
  | _ => rfl
@[simp] theorem b1_ok (b : Bool) (h : MH) : b1 (.ok (.bl b) h) = .ok b h := nr rfl
def and1 (b : MT) (ρ : Slots) : R Bool → R Bool
  | .ok true h => b ρ h
  | .ok false h => .ok false h
  | .exc x fs h => .exc x fs h
  | .bad => .bad
def or1 (b : MT) (ρ : Slots) : R Bool → R Bool
  | .ok true h => .ok true h
  | .ok false h => b ρ h
  | .exc x fs h => .exc x fs h
  | .bad => .bad
def not1 : R Bool → R Bool
  | .ok b h => .ok (!b) h
  | .exc x fs h => .exc x fs h
  | .bad => .bad
@[simp] theorem mAnd_ev (a b : MT) (ρ : Slots) (h : MH) : mAnd a b ρ h = and1 b ρ (a ρ h) := by
  unfold mAnd and1
  cases a ρ h with
  | ok x h1 => cases x <;> rfl
  | _ => rfl
@[simp] theorem mOr_ev (a b : MT) (ρ : Slots) (h : MH) : mOr a b ρ h = or1 b ρ (a ρ h) := by
  unfold mOr or1
  cases a ρ h with
  | ok x h1 => cases x <;> rfl
  | _ => rfl
@[simp] theorem mNot_ev (a : MT) (ρ : Slots) (h : MH) : mNot a ρ h = not1 (a ρ h) := by
  unfold mNot not1
  cases a ρ h <;> rfl
@[simp] theorem and1_t (b : MT) (ρ : Slots) (h : MH) : and1 b ρ (.ok true h) = b ρ h := nr rfl
@[simp] theorem and1_f (b : MT) (ρ : Slots) (h : MH) : and1 b ρ (.ok false h) = .ok false h := nr rfl
@[simp] theorem or1_t (b : MT) (ρ : Slots) (h : MH) : or1 b ρ (.ok true h) = .ok true h := nr rfl
@[simp] theorem or1_f (b : MT) (ρ : Slots) (h : MH) : or1 b ρ (.ok false h) = b ρ h := nr rfl
@[simp] theorem not1_ok (b : Bool) (h : MH) : not1 (.ok b h) = .ok (!b) h := nr rfl
def andV1 (b : ME) (ρ : Slots) : R D → R D
  | .ok (.bl true) h => b ρ h
  | .ok (.bl false) h => .ok (.bl false) h
  | .ok _ _ => .bad
  | .exc x fs h => .exc x fs h
  | .bad => .bad
def orV1 (b : ME) (ρ : Slots) : R D → R D
  | .ok (.bl true) h => .ok (.bl true) h
  | .ok (.bl false) h => b ρ h
  | .ok _ _ => .bad
  | .exc x fs h => .exc x fs h
  | .bad => .bad
def notV1 : R D → R D
  | .ok (.bl b) h => .ok (.bl (!b)) h
  | .ok _ _ => .bad
  | .exc x fs h => .exc x fs h
  | .bad => .bad
@[simp] theorem mAndV_ev (a b : ME) (ρ : Slots) (h : MH) : mAndV a b ρ h = andV1 b ρ (a ρ h) := by
  unfold mAndV andV1
  cases a ρ h with
  | ok x h1 => cases x with
    | bl b => cases b <;> rfl
    | _ => rfl
  | _ => rfl
@[simp] theorem mOrV_ev (a b : ME) (ρ : Slots) (h : MH) : mOrV a b ρ h = orV1 b ρ (a ρ h) := by
  unfold mOrV orV1
  cases a ρ h with
  | ok x h1 => cases x with
    | bl b => cases b <;> rfl
    | _ => rfl
  | _ => rfl
@[simp] theorem mNotV_ev (a : ME) (ρ : Slots) (h : MH) : mNotV a ρ h = notV1 (a ρ h) := by
  unfold mNotV notV1
  cases a ρ h with
  | ok x h1 => cases x <;> rfl
  | _ => rfl
@[simp] theorem andV1_t (b : ME) (ρ : Slots) (h : MH) : andV1 b ρ (.ok (.bl true) h) = b ρ h := nr rfl
@[simp] theorem andV1_f (b : ME) (ρ : Slots) (h : MH) : andV1 b ρ (.ok (.bl false) h) = .ok (.bl false) h := nr rfl
@[simp] theorem orV1_t (b : ME) (ρ : Slots) (h : MH) : orV1 b ρ (.ok (.bl true) h) = .ok (.bl true) h := nr rfl
@[simp] theorem orV1_f (b : ME) (ρ : Slots) (h : MH) : orV1 b ρ (.ok (.bl false) h) = b ρ h := nr rfl
@[simp] theorem notV1_ok (b : Bool) (h : MH) : notV1 (.ok (.bl b) h) = .ok (.bl (!b)) h := nr rfl
def ifE1 (a b : ME) (ρ : Slots) : R Bool → R D
  | .ok true h => a ρ h
  | .ok false h => b ρ h
  | .exc x fs h => .exc x fs h
  | .bad => .bad
@[simp] theorem mIfE_ev (c : MT) (a b : ME) (ρ : Slots) (h : MH) : mIfE c a b ρ h = ifE1 a b ρ (c ρ h) := by
  unfold mIfE ifE1
  cases c ρ h with
  | ok x h1 => cases x <;> rfl
  | _ => rfl
@[simp] theorem ifE1_t (a b : ME) (ρ : Slots) (h : MH) : ifE1 a b ρ (.ok true h) = a ρ h := nr rfl
@[simp] theorem ifE1_f (a b : ME) (ρ : Slots) (h : MH) : ifE1 a b ρ (.ok false h) = b ρ h := nr rfl
/-! isinstance, slices, methods -/
def isi1 (T : String) : R D → R D
  | .ok x h => match (tyName h x).bind fun n => kitB n T with
    | some b => .ok (.bl b) h
    | none => .bad
  | .exc x fs h => .exc x fs h
  | .bad => .bad
@[simp] theorem mIsi_ev (T : String) (a : ME) (ρ : Slots) (h : MH) : mIsi T a ρ h = isi1 T (a ρ h) := by
  unfold mIsi isi1
  cases a ρ h <;> rfl
theorem isi1_ok (T : String) (x : D) (h : MH) {n : String} {b : Bool} (hn : tyName h x = some n) (hb : kitB n T = some b) : isi1 T (.ok x h) = .ok (.bl b) h := by
  unfold isi1
  simp only [hn, Option.bind_some, hb]
@[simp] theorem isi_str_str (x : Str) (h : MH) : isi1 "str" (.ok (.str x) h) = .ok (.bl true) h := isi1_ok _ _ _ rfl (by decide +kernel)
@[simp] theorem isi_str_int (x : Int) (h : MH) : isi1 "str" (.ok (.int x) h) = .ok (.bl false) h := isi1_ok _ _ _ rfl (by decide +kernel)
@[simp] theorem isi_str_non (h : MH) : isi1 "str" (.ok .non h) = .ok (.bl false) h := isi1_ok _ _ _ rfl (by decide +kernel)
@[simp] theorem isi_str_bl (b : Bool) (h : MH) : isi1 "str" (.ok (.bl b) h) = .ok (.bl false) h := isi1_ok _ _ _ rfl (by decide +kernel)
@[simp] theorem isi_str_tup (l : List D) (h : MH) : isi1 "str" (.ok (.tup l) h) = .ok (.bl false) h := isi1_ok _ _ _ rfl (by decide +kernel)
@[simp] theorem isi_bool_bl (b : Bool) (h : MH) : isi1 "bool" (.ok (.bl b) h) = .ok (.bl true) h := isi1_ok _ _ _ rfl (by decide +kernel)
@[simp] theorem isi_bool_int (b : Int) (h : MH) : isi1 "bool" (.ok (.int b) h) = .ok (.bl false) h := isi1_ok _ _ _ rfl (by decide +kernel)
@[simp] theorem isi_int_int (b : Int) (h : MH) : isi1 "int" (.ok (.int b) h) = .ok (.bl true) h := isi1_ok _ _ _ rfl (by decide +kernel)
@[simp] theorem isi_tup_tup (l : List D) (h : MH) : isi1 "tuple" (.ok (.tup l) h) = .ok (.bl true) h := isi1_ok _ _ _ rfl (by decide +kernel)
@[simp] theorem isi_tup_str (x : Str) (h : MH) : isi1 "tuple" (.ok (.str x) h) = .ok (.bl false) h := isi1_ok _ _ _ rfl (by decide +kernel)
@[simp] theorem isi_tup_int (x : Int) (h : MH) : isi1 "tuple" (.ok (.int x) h) = .ok (.bl false) h := isi1_ok _ _ _ rfl (by decide +kernel)
@[simp] theorem isi_tup_non (h : MH) : isi1 "tuple" (.ok .non h) = .ok (.bl false) h := isi1_ok _ _ _ rfl (by decide +kernel)
@[simp] theorem mNo_ev (ρ : Slots) (h : MH) : mNo ρ h = .ok none h := nr rfl
def some1 : R D → R (Option Int)
  | .ok (.int i) h => .ok (some i) h
  | .ok _ _ => .bad
  | .exc x fs h => .exc x fs h
  | .bad => .bad
@[simp] theorem mSome_ev (a : ME) (ρ : Slots) (h : MH) : mSome a ρ h = some1 (a ρ h) := by
  unfold mSome some1
  cases a ρ h with
  | ok x h1 => cases x <;> rfl
  | _ => rfl
@[simp] theorem some1_ok (i : Int) (h : MH) : some1 (.ok (.int i) h) = .ok (some i) h := nr rfl
def sl1 (lo hi : MP) (ρ : Slots) (r : R D) : R D := r.bind fun x h1 => (lo ρ h1).bind fun l h2 => (hi ρ h2).bind fun u h3 => dSl x l u h3
def sl2 (x : D) (hi : MP) (ρ : Slots) (r : R (Option Int)) : R D := r.bind fun l h2 => (hi ρ h2).bind fun u h3 => dSl x l u h3
def sl3 (x : D) (l : Option Int) (r : R (Option Int)) : R D := r.bind fun u h3 => dSl x l u h3
@[simp] theorem mSl_ev (a : ME) (lo hi : MP) (ρ : Slots) (h : MH) : mSl a lo hi ρ h = sl1 lo hi ρ (a ρ h) := nr rfl
@[simp] theorem sl1_ok (lo hi : MP) (ρ : Slots) (x : D) (h : MH) : sl1 lo hi ρ (.ok x h) = sl2 x hi ρ (lo ρ h) := nr rfl
@[simp] theorem sl2_ok (x : D) (hi : MP) (ρ : Slots) (l : Option Int) (h : MH) : sl2 x hi ρ (.ok l h) = sl3 x l (hi ρ h) := nr rfl
@[simp] theorem sl3_ok (x : D) (l u : Option Int) (h : MH) : sl3 x l (.ok u h) = dSl x l u h := nr rfl
def meth1 (T : D → MH → Bool) (f : D → List D → MH → R D) (t : MA) (ρ : Slots) (r : R D) : R D := r.bind fun x h1 => if T x h1 = true then (t ρ h1).bind fun xs h2 => f x xs h2 else .bad
def meth2 (f : D → List D → MH → R D) (x : D) (r : R (List D)) : R D := r.bind fun xs h2 => f x xs h2
@[simp] theorem mMeth_ev (T : D → MH → Bool) (f : D → List D → MH → R D) (a : ME) (r : MA) (ρ : Slots) (h : MH) : mMeth T f a r ρ h = meth1 T f r ρ (a ρ h) := nr rfl
@[simp] theorem meth1_ok (T : D → MH → Bool) (f : D → List D → MH → R D) (r : MA) (ρ : Slots) (x : D) (h : MH) : meth1 T f r ρ (.ok x h) = if T x h = true then meth2 f x (r ρ h) else .bad := nr rfl
@[simp] theorem meth2_ok (f : D → List D → MH → R D) (x : D) (xs : List D) (h : MH) : meth2 f x (.ok xs h) = f x xs h := nr rfl
@[simp] theorem isListD_ref (i : Nat) (h : MH) : isListD (.ref i) h = (getL h i).isSome := nr rfl
@[simp] theorem isStrD_str (x : Str) (h : MH) : isStrD (.str x) h = true := nr rfl
/-! statements -/
def Out.then (b : MS) : Out → Out
  | .nx ρ h => b ρ h
  | o => o
@[simp] theorem mSeq_ev (a b : MS) (ρ : Slots) (h : MH) : mSeq a b ρ h = (a ρ h).then b := by
  unfold mSeq Out.then
  cases a ρ h <;> rfl
@[simp] theorem then_nx (b : MS) (ρ : Slots) (h : MH) : Out.then b (.nx ρ h) = b ρ h := nr rfl
@[simp] theorem then_rt (b : MS) (d : D) (h : MH) : Out.then b (.rt d h) = .rt d h := nr rfl
@[simp] theorem then_bk (b : MS) (ρ : Slots) (h : MH) : Out.then b (.bk ρ h) = .bk ρ h := nr rfl
@[simp] theorem then_ct (b : MS) (ρ : Slots) (h : MH) : Out.then b (.ct ρ h) = .ct ρ h := nr rfl
@[simp] theorem then_exc (b : MS) (x : Str) (fs : List (Str × D)) (ρ : Slots) (h : MH) : Out.then b (.exc x fs ρ h) = .exc x fs ρ h := nr rfl
@[simp] theorem mSkip_ev (ρ : Slots) (h : MH) : mSkip ρ h = .nx ρ h := nr rfl
@[simp] theorem mBreak_ev (ρ : Slots) (h : MH) : mBreak ρ h = .bk ρ h := nr rfl
@[simp] theorem mCont_ev (ρ : Slots) (h : MH) : mCont ρ h = .ct ρ h := nr rfl
@[simp] theorem mRetN_ev (ρ : Slots) (h : MH) : mRetN ρ h = .rt .non h := nr rfl
def asg1 (i : Nat) (ρ : Slots) : R D → Out
  | .ok d h => .nx (ρ.set i (some d)) h
  | .exc x fs h => .exc x fs ρ h
  | .bad => .bad
def ret1 (ρ : Slots) : R D → Out
  | .ok d h => .rt d h
  | .exc x fs h => .exc x fs ρ h
  | .bad => .bad
def drop1 (ρ : Slots) : R D → Out
  | .ok d h => .nx ρ h
  | .exc x fs h => .exc x fs ρ h
  | .bad => .bad
def if1 (a b : MS) (ρ : Slots) : R Bool → Out
  | .ok true h => a ρ h
  | .ok false h => b ρ h
  | .exc x fs h => .exc x fs ρ h
  | .bad => .bad
@[simp] theorem mAsg_ev (i : Nat) (e : ME) (ρ : Slots) (h : MH) : mAsg i e ρ h = asg1 i ρ (e ρ h) := by
  unfold mAsg asg1
  cases e ρ h <;> rfl
@[simp] theorem asg1_ok (i : Nat) (ρ : Slots) (d : D) (h : MH) : asg1 i ρ (.ok d h) = .nx (ρ.set i (some d)) h := nr rfl
@[simp] theorem mRet_ev (e : ME) (ρ : Slots) (h : MH) : mRet e ρ h = ret1 ρ (e ρ h) := by
  unfold mRet ret1
  cases e ρ h <;> rfl
@[simp] theorem ret1_ok (ρ : Slots) (d : D) (h : MH) : ret1 ρ (.ok d h) = .rt d h := nr rfl
@[simp] theorem mDrop_ev (e : ME) (ρ : Slots) (h : MH) : mDrop e ρ h = drop1 ρ (e ρ h) := by
  unfold mDrop drop1
  cases e ρ h <;> rfl
@[simp] theorem drop1_ok (ρ : Slots) (d : D) (h : MH) : drop1 ρ (.ok d h) = .nx ρ h := nr rfl
@[simp] theorem mIf_ev (c : MT) (a b : MS) (ρ : Slots) (h : MH) : mIf c a b ρ h = if1 a b ρ (c ρ h) := by
  unfold mIf if1
  cases c ρ h with
  | ok x h1 => cases x <;> rfl
  | _ => rfl
@[simp] theorem if1_t (a b : MS) (ρ : Slots) (h : MH) : if1 a b ρ (.ok true h) = a ρ h := nr rfl
@[simp] theorem if1_f (a b : MS) (ρ : Slots) (h : MH) : if1 a b ρ (.ok false h) = b ρ h := nr rfl
def for1 (tg : MG) (body : MS) (ρ : Slots) : R (List D × (MH → Bool)) → Out
  | .ok a h => forGo a.2 tg body a.1 ρ h
  | .exc x fs h => .exc x fs ρ h
  | .bad => .bad
@[simp] theorem mFor_ev (it : MI) (tg : MG) (body : MS) (ρ : Slots) (h : MH) : mFor it tg body ρ h = for1 tg body ρ (it ρ h) := by
  unfold mFor for1
  cases it ρ h <;> rfl
@[simp] theorem for1_ok (tg : MG) (body : MS) (ρ : Slots) (l : List D) (gd : MH → Bool) (h : MH) : for1 tg body ρ (.ok (l, gd) h) = forGo gd tg body l ρ h := nr rfl
def rg1 (f : Int → Nat → List D) : R D → R (List D × (MH → Bool))
  | .ok x h => dR1 f x h
  | .exc x fs h => .exc x fs h
  | .bad => .bad
@[simp] theorem mRange1_ev (a : ME) (ρ : Slots) (h : MH) : mRange1 a ρ h = rg1 rangeD (a ρ h) := by
  unfold mRange1 rg1
  cases a ρ h <;> rfl
@[simp] theorem mRev1_ev (a : ME) (ρ : Slots) (h : MH) : mRev1 a ρ h = rg1 revRangeD (a ρ h) := by
  unfold mRev1 rg1
  cases a ρ h <;> rfl
@[simp] theorem rg1_ok (f : Int → Nat → List D) (j : Int) (h : MH) : rg1 f (.ok (.int j) h) = if lim62 j = true then .ok (f 0 j.toNat, yes) h else .bad := nr rfl
def rg2 (f : Int → Nat → List D) (b : ME) (ρ : Slots) (r : R D) : R (List D × (MH → Bool)) := r.bind fun x h => (b ρ h).bind fun y h2 => dR2 f x y h2
def rg3 (f : Int → Nat → List D) (x : D) (r : R D) : R (List D × (MH → Bool)) := r.bind fun y h => dR2 f x y h
@[simp] theorem mRange2_ev (a b : ME) (ρ : Slots) (h : MH) : mRange2 a b ρ h = rg2 rangeD b ρ (a ρ h) := nr rfl
@[simp] theorem mRev2_ev (a b : ME) (ρ : Slots) (h : MH) : mRev2 a b ρ h = rg2 revRangeD b ρ (a ρ h) := nr rfl
@[simp] theorem rg2_ok (f : Int → Nat → List D) (b : ME) (ρ : Slots) (x : D) (h : MH) : rg2 f b ρ (.ok x h) = rg3 f x (b ρ h) := nr rfl
@[simp] theorem rg3_ok (f : Int → Nat → List D) (i j : Int) (h : MH) : rg3 f (.int i) (.ok (.int j) h) = if lim62 i = true ∧ lim62 j = true then .ok (f i (j - i).toNat, yes) h else .bad := nr rfl
def iter1 : R D → R (List D × (MH → Bool))
  | .ok x h => match itemsOf x h with
    | some r => .ok r h
    | none => .bad
  | .exc x fs h => .exc x fs h
  | .bad => .bad
@[simp] theorem mIter_ev (a : ME) (ρ : Slots) (h : MH) : mIter a ρ h = iter1 (a ρ h) := by
  unfold mIter iter1
  cases a ρ h <;> rfl
@[simp] theorem iter1_tup (l : List D) (h : MH) : iter1 (.ok (.tup l) h) = .ok (l, yes) h := nr rfl
@[simp] theorem iter1_str (z : Str) (h : MH) : iter1 (.ok (.str z) h) = .ok (z.cps.toList.map fun c => .str ⟨#[c]⟩, yes) h := nr rfl
theorem iter1_ref (i : Nat) (h : MH) (l : List D) (hl : getL h i = some l) : iter1 (.ok (.ref i) h) = .ok (l, fun h' => decide (getL h' i = some l)) h := by
  simp [iter1, itemsOf, hl]
@[simp] theorem yes_ev (h : MH) : yes h = true := nr rfl
@[simp] theorem mgName_ev (i : Nat) (d : D) (ρ : Slots) : mgName i d ρ = some (ρ.set i (some d)) := nr rfl
/-- a def's end -/
def fin1 : Out → R D
  | .nx _ h => .ok .non h
  | .rt d h => .ok d h
  | .exc x fs _ h => .exc x fs h
  | _ => .bad
@[simp] theorem fin1_nx (ρ : Slots) (h : MH) : fin1 (.nx ρ h) = .ok .non h := nr rfl
@[simp] theorem fin1_rt (d : D) (h : MH) : fin1 (.rt d h) = .ok d h := nr rfl
@[simp] theorem fin1_exc (x : Str) (fs : List (Str × D)) (ρ : Slots) (h : MH) : fin1 (.exc x fs ρ h) = .exc x fs h := nr rfl
@[simp] theorem rep0 : List.replicate 0 (none : Option D) = [] := nr rfl
/-! ### loops -/
theorem rangeD_get {i : Int} {n k : Nat} {d : D} (h : (rangeD i n)[k]? = some d) : k < n ∧ d = .int (i + (k : Int)) := by
  simp only [rangeD, List.getElem?_map, Option.map_eq_some_iff] at h
  obtain ⟨a, h1, h2⟩ := h
  have := List.getElem?_eq_some_iff.mp h1
  obtain ⟨lt, e⟩ := this
  simp at lt e
  subst e
  exact ⟨lt, h2.symm⟩
@[simp] theorem rangeD_length (i : Int) (n : Nat) : (rangeD i n).length = n := by simp [rangeD]
@[simp] theorem revRangeD_length (i : Int) (n : Nat) : (revRangeD i n).length = n := by simp [revRangeD]
/-! ### numbers of bits, places -/
theorem bits_lt {i : Int} {n : Nat} (h : i.natAbs < 2 ^ n) : Builtin.Int.intBits i ≤ n := by
  unfold Builtin.Int.intBits
  split
  · omega
  · rename_i hz
    have : i.natAbs.log2 < n := (Nat.log2_lt (by simpa using hz)).mpr h
    omega
theorem atI_in {α : Type} {l : List α} {i : Int} (h0 : 0 ≤ i) (h1 : i < (l.length : Int)) : ∃ c, atI l i = some c ∧ l[i.toNat]? = some c := by
  have lt : i.toNat < l.length := by omega
  refine ⟨l[i.toNat], ?_, List.getElem?_eq_getElem lt⟩
  unfold atI ixN
  rw [if_pos h0, if_pos h1]
  simp [lt]
theorem atI_at {α : Type} {l : List α} {k : Nat} {c : α} (h : l[k]? = some c) : atI l (k : Int) = some c := by
  have lt := (List.getElem?_eq_some_iff.mp h).1
  unfold atI ixN
  rw [if_pos (by omega), if_pos (by omega)]
  simpa using h
/-! ### operators at plain values -/
section
variable (i j : Int) (x y : Str) (a b : Bool) (l m : List D) (h : MH)
@[simp] theorem dAdd_int : dAdd (.int i) (.int j) h = .ok (.int (i + j)) h := nr rfl
@[simp] theorem dAdd_str : dAdd (.str x) (.str y) h = if x.length + y.length ≤ 1000000 then .ok (.str (x ++ y)) h else .bad := nr rfl
@[simp] theorem dAdd_tup : dAdd (.tup l) (.tup m) h = if l.length + m.length ≤ 1000000 then .ok (.tup (l ++ m)) h else .bad := nr rfl
@[simp] theorem dSub_int : dSub (.int i) (.int j) h = .ok (.int (i - j)) h := nr rfl
theorem dMul_int : dMul (.int i) (.int j) h = if (Builtin.Int.intBits i : Int) + (Builtin.Int.intBits j : Int) ≤ 134217728 then .ok (.int (i * j)) h else .bad := rfl
@[simp] theorem dMul_str : dMul (.str x) (.int j) h = if j ≤ 1000000 ∧ -1000000 ≤ j ∧ x.length * j.toNat ≤ 1000000 then .ok (.str (Txt.mul x j)) h else .bad := nr rfl
theorem dFdiv_int : dFdiv (.int i) (.int j) h = if 0 < j ∧ j.natAbs.log2 < 9000 then .ok (.int (i / j)) h else .bad := rfl
@[simp] theorem dMod_int : dMod (.int i) (.int j) h = if 0 < j then .ok (.int (i % j)) h else .bad := nr rfl
@[simp] theorem dFdiv_small (h0 : 0 < j) (h1 : j < 18446744073709551616) : dFdiv (.int i) (.int j) h = .ok (.int (i / j)) h := by
  rw [dFdiv_int, if_pos ⟨h0, Nat.lt_trans (PySem.Flt.log2_lt_of (k := 64) (by decide) (by omega)) (by decide)⟩]
theorem dMul_bits {a b : Nat} (ha : Builtin.Int.intBits i ≤ a) (hb : Builtin.Int.intBits j ≤ b) (hab : a + b ≤ 134217728) : dMul (.int i) (.int j) h = .ok (.int (i * j)) h := by
  rw [dMul_int, if_pos (by omega)]
theorem bits_small {i : Int} (h0 : -18446744073709551616 < i) (h1 : i < 18446744073709551616) : Builtin.Int.intBits i ≤ 64 := bits_lt (by omega)
theorem dMul_s (h0 : -18446744073709551616 < i) (h1 : i < 18446744073709551616) (h2 : -18446744073709551616 < j) (h3 : j < 18446744073709551616) : dMul (.int i) (.int j) h = .ok (.int (i * j)) h := dMul_bits i j h (bits_small h0 h1) (bits_small h2 h3) (by decide)
@[simp] theorem dPow_int : dPow (.int i) (.int j) h = if 0 ≤ j ∧ j ≤ 1000000 ∧ i.natAbs < 2 ^ 64 then .ok (.int (i ^ j.toNat)) h else .bad := nr rfl
@[simp] theorem dShl_int : dShl (.int i) (.int j) h = if 0 ≤ j ∧ j ≤ 1000000 ∧ i.natAbs < 2 ^ 64 then .ok (.int (i * 2 ^ j.toNat)) h else .bad := nr rfl
@[simp] theorem dLt_int : dLt (.int i) (.int j) h = .ok (.bl (decide (i < j))) h := nr rfl
@[simp] theorem dLe_int : dLe (.int i) (.int j) h = .ok (.bl (decide (i ≤ j))) h := nr rfl
@[simp] theorem dGt_int : dGt (.int i) (.int j) h = .ok (.bl (decide (j < i))) h := nr rfl
@[simp] theorem dGe_int : dGe (.int i) (.int j) h = .ok (.bl (decide (j ≤ i))) h := nr rfl
@[simp] theorem dNeg_int : dNeg (.int i) h = .ok (.int (-i)) h := nr rfl
@[simp] theorem eqD_int : eqD (.int i) (.int j) h = some (decide (i = j)) := by
  simp [eqD, scalD]
@[simp] theorem eqD_str : eqD (.str x) (.str y) h = some (decide (x = y)) := by
  simp [eqD, scalD]
@[simp] theorem eqD_bl : eqD (.bl a) (.bl b) h = some (decide (a = b)) := by
  simp [eqD, scalD]
@[simp] theorem eqD_non : eqD .non .non h = some true := by
  simp [eqD, scalD]
@[simp] theorem eqD_int_non : eqD (.int i) .non h = some false := by
  simp [eqD, scalD]
@[simp] theorem eqD_non_int : eqD .non (.int i) h = some false := by
  simp [eqD, scalD]
theorem dEq_of {a b : D} {k : Bool} {h : MH} (e : eqD a b h = some k) : dEq a b h = .ok (.bl k) h := by unfold dEq; rw [e]
theorem dNe_of {a b : D} {k : Bool} {h : MH} (e : eqD a b h = some k) : dNe a b h = .ok (.bl (!k)) h := by unfold dNe; rw [e]
@[simp] theorem dEq_int : dEq (.int i) (.int j) h = .ok (.bl (decide (i = j))) h := dEq_of (eqD_int i j h)
@[simp] theorem dNe_int : dNe (.int i) (.int j) h = .ok (.bl (!decide (i = j))) h := dNe_of (eqD_int i j h)
@[simp] theorem dEq_str : dEq (.str x) (.str y) h = .ok (.bl (decide (x = y))) h := dEq_of (eqD_str x y h)
@[simp] theorem dNe_str : dNe (.str x) (.str y) h = .ok (.bl (!decide (x = y))) h := dNe_of (eqD_str x y h)
@[simp] theorem dEq_bl : dEq (.bl a) (.bl b) h = .ok (.bl (decide (a = b))) h := dEq_of (eqD_bl a b h)
@[simp] theorem dIsN_ev (d : D) : dIsN d .non h = .ok (.bl (decide (d = .non))) h := nr rfl
@[simp] theorem dNotN_ev (d : D) : dNotN d .non h = .ok (.bl (!decide (d = .non))) h := nr rfl
@[simp] theorem dLen_str : dLen [.str x] h = if x.length ≤ 1000000 then .ok (.int x.length) h else .bad := nr rfl
@[simp] theorem dLen_tup : dLen [.tup l] h = .ok (.int l.length) h := nr rfl
theorem dLen_ref {i : Nat} {h : MH} {l : List D} (e : getL h i = some l) : dLen [.ref i] h = .ok (.int l.length) h := by simp [dLen, e]
@[simp] theorem dAbs_ev : dAbs [.int i] h = .ok (.int (if i < 0 then -i else i)) h := nr rfl
@[simp] theorem dMax_ev : dMax [.int i, .int j] h = .ok (.int (if j > i then j else i)) h := nr rfl
@[simp] theorem dMin_ev : dMin [.int i, .int j] h = .ok (.int (if j < i then j else i)) h := nr rfl
@[simp] theorem dInt_int : dInt [.int i] h = .ok (.int i) h := nr rfl
@[simp] theorem dInt_bl : dInt [.bl a] h = .ok (.int (if a then 1 else 0)) h := nr rfl
@[simp] theorem dSl_str (lo hi : Option Int) : dSl (.str x) lo hi h = if x.length ≤ 1000000 then .ok (.str (cutS x lo hi)) h else .bad := nr rfl
@[simp] theorem dSl_tup (lo hi : Option Int) : dSl (.tup l) lo hi h = .ok (.tup (cutD l lo hi)) h := nr rfl
theorem dSl_ref {i : Nat} {h : MH} {l : List D} (e : getL h i = some l) (lo hi : Option Int) : dSl (.ref i) lo hi h = .ok (.ref h.length) (h ++ [.lst (cutD l lo hi)]) := by simp [dSl, e]
theorem dIx_str {c : Nat} {x : Str} {i : Int} (hz : x.length ≤ 1000000) (e : atI x.cps.toList i = some c) : dIx (.str x) (.int i) h = .ok (.str ⟨#[c]⟩) h := by
  simp [dIx, hz, e]
theorem dIx_tup {d : D} {l : List D} {i : Int} (e : atI l i = some d) : dIx (.tup l) (.int i) h = .ok d h := by simp [dIx, seqOf, e]
theorem dIx_ref {d : D} {l : List D} {k : Nat} {i : Int} {h : MH} (hl : getL h k = some l) (e : atI l i = some d) : dIx (.ref k) (.int i) h = .ok d h := by simp [dIx, seqOf, hl, e]
theorem dNotIn_sign {c : Nat} {z : Str} : dNotIn (.str ⟨#[c]⟩) (.str z) h = .ok (.bl (!decide (c ∈ z.cps.toList))) h := rfl
end
end Mi
namespace Mi
open PySem L2

/-! ### zip of two lists -/
def zipD (l m : List D) : List D := (l.zip m).map fun p => .tup [p.1, p.2]
def mZip (a b : ME) : MI := fun ρ h => (a ρ h).bind fun x h1 => (b ρ h1).bind fun y h2 => match x, y with
  | .ref i, .ref j => match getL h2 i, getL h2 j with
    | some l, some m => .ok (zipD l m, fun h' => decide (getL h' i = some l) && decide (getL h' j = some m)) h2
    | _, _ => .bad
  | _, _ => .bad
section
variable {X : Cx} {g : G} {W : WX} {a b : Expr} {ma mb : ME} {pos : Pos}
theorem zipD_length (l m : List D) : (zipD l m).length = min l.length m.length := by simp [zipD]
theorem zipD_get {l m : List D} {k : Nat} {d : D} (h : (zipD l m)[k]? = some d) : ∃ x y, l[k]? = some x ∧ m[k]? = some y ∧ d = .tup [x, y] := by
  simp only [zipD, List.getElem?_map, Option.map_eq_some_iff] at h
  obtain ⟨⟨x, y⟩, h1, h2⟩ := h
  rw [List.getElem?_zip_eq_some] at h1
  exact ⟨x, y, h1.1, h1.2, h2.symm⟩
/-! ### xs[::-1], list(range(..)) -/
def dRevL (x : D) (h : MH) : R D := match x with
  | .ref i => match getL h i with
    | some l => .ok (.ref h.length) (h ++ [.lst l.reverse])
    | none => .bad
  | _ => .bad
def mRevL (a : ME) : ME := mUn dRevL a
theorem se_revL {k : Nat} {p1 p2 p3 : Pos} (ha : PE X a (tE g W ma)) (hK : X.K = g.K := by rfl) : PE X (.Subscript a (.Slice none none (some (.UnaryOp .USub (.Constant (.int 1) k p1) p2)) p3) pos) (tE g W (mRevL ma)) :=
  pe_mono (pe_revL ha) fun σ H Q ⟨ρ, h, μ, sr, hr, bk⟩ => step (rel := VR) (rel' := VR) (ma := ma) (Q' := Q) sr hr bk fun x d h1 H1 μ1 m1 sr1 hr1 vx bk1 => by
    rw [hK]
    cases vx with
    | @ref p i hi =>
      simp only [dRevL] at bk1
      split at bk1
      · rename_i l e
        obtain ⟨xs, hs, vs⟩ := hr1.list hi e
        exact ⟨p, xs, rfl, hs, fun r hr' => bk1.newL hr1 vs.reverse hr'⟩
      · exact bk1.elim
    | _ => exact bk1.elim
def lstRg (i j : Int) (h : MH) : R D := if 0 ≤ i ∧ j ≤ 1000000 ∧ i ≤ 1000000 ∧ 0 ≤ j then .ok (.ref h.length) (h ++ [.lst (rangeD i (j - i).toNat)]) else .bad
def mListRg1 (a : ME) : ME := mUn (fun x h => match x with
  | .int j => lstRg 0 j h
  | _ => .bad) a
def mListRg2 (a b : ME) : ME := mBin (fun x y h => match x, y with
  | .int i, .int j => lstRg i j h
  | _, _ => .bad) a b
/-! ### t.index(x) -/
def fidx (z : Str) : List Str → Option Nat
  | [] => none
  | y :: r => if y = z then some 0 else (fidx z r).map (· + 1)
def dTIdx (x y : D) (h : MH) : R D := match x, y with
  | .tup l, .str z => match allStr l with
    | some ys => match fidx z ys with
      | some j => .ok (.int j) h
      | none => .bad
    | none => .bad
  | _, _ => .bad
def mTIndex (a b : ME) : ME := fun ρ h => (a ρ h).bind fun x h1 => match x with
  | .tup l => (b ρ h1).bind fun y h2 => dTIdx (.tup l) y h2
  | _ => .bad
end
/-! ### sorted: ints, texts (fewer than 64) -/
abbrev ltC : List Nat → List Nat → Bool := PySem.Spec.ltCps
def leS (a b : Str) : Bool := !ltC b.cps.toList a.cps.toList
def sortS (l : List Str) : List Str := l.mergeSort leS
def sortI (l : List Int) : List Int := l.mergeSort fun a b => decide (a ≤ b)
def allInt : List D → Option (List Int)
  | [] => some []
  | .int b :: r => (allInt r).map (b :: ·)
  | _ => none
theorem vrs_strs {g : G} {H : Hp} {μ : List Addr} : ∀ ns : List Str, VRs g H μ (ns.map V.str) (ns.map D.str)
  | [] => .nil
  | n :: ns => .cons (.str n) (vrs_strs ns)
def dSorted : List D → MH → R D
  | [.ref i], h => match getL h i with
    | some l => if l.length < 64 then match allStr l with
      | some ys => .ok (.ref h.length) (h ++ [.lst ((sortS ys).map .str)])
      | none => match allInt l with
        | some ys => .ok (.ref h.length) (h ++ [.lst ((sortI ys).map .int)])
        | none => .bad else .bad
    | none => .bad
  | _, _ => .bad
section
variable {X : Cx} {g : G}
end
end Mi

/-! A calculus for the mirror: what must hold ahead of a part so that a thing holds behind it. -/
namespace Mi
open PySem L2
abbrev XE := Str → List (Str × D) → MH → Prop
@[irreducible] def Sat {α : Type} (r : R α) (Q : α → MH → Prop) (E : XE) : Prop := match r with
  | .ok d h => Q d h
  | .exc x fs h => E x fs h
  | .bad => False
abbrev SP := Slots → MH → Prop
abbrev SX := Str → List (Str × D) → Slots → MH → Prop
@[irreducible] def OS (o : Out) (N : SP) (T : D → MH → Prop) (B C : SP) (E : SX) : Prop := match o with
  | .nx ρ h => N ρ h
  | .rt d h => T d h
  | .bk ρ h => B ρ h
  | .ct ρ h => C ρ h
  | .exc x fs ρ h => E x fs ρ h
  | .bad => False
abbrev noX : XE := fun _ _ _ => False
abbrev noS : SP := fun _ _ => False
section
variable {α : Type} {Q : α → MH → Prop} {E : XE}
theorem Sat_ok (d : α) (h : MH) : Sat (.ok d h) Q E = Q d h := by unfold Sat; rfl
theorem Sat_exc (x : Str) (fs : List (Str × D)) (h : MH) : Sat (.exc x fs h : R α) Q E = E x fs h := by unfold Sat; rfl
theorem Sat_bad : Sat (.bad : R α) Q E = False := by unfold Sat; rfl
variable {N : SP} {T : D → MH → Prop} {B C : SP} {Es : SX}
theorem OS_nx (ρ : Slots) (h : MH) : OS (.nx ρ h) N T B C Es = N ρ h := by unfold OS; rfl
theorem OS_rt (d : D) (h : MH) : OS (.rt d h) N T B C Es = T d h := by unfold OS; rfl
theorem OS_bk (ρ : Slots) (h : MH) : OS (.bk ρ h) N T B C Es = B ρ h := by unfold OS; rfl
theorem OS_ct (ρ : Slots) (h : MH) : OS (.ct ρ h) N T B C Es = C ρ h := by unfold OS; rfl
theorem OS_exc (x : Str) (fs : List (Str × D)) (ρ : Slots) (h : MH) : OS (.exc x fs ρ h) N T B C Es = Es x fs ρ h := by unfold OS; rfl
theorem OS_bad : OS .bad N T B C Es = False := by unfold OS; rfl
end
theorem Sat.monoE {α : Type} {r : R α} {Q Q' : α → MH → Prop} {E E' : XE} (s : Sat r Q E) (k : ∀ d h, Q d h → Q' d h) (k' : ∀ x fs h, E x fs h → E' x fs h) : Sat r Q' E' := by
  cases r with
  | ok d h => rw [Sat_ok] at s ⊢; exact k d h s
  | exc x fs h => rw [Sat_exc] at s ⊢; exact k' x fs h s
  | _ => rw [Sat_bad] at s; exact s.elim
theorem Sat.mono {α : Type} {r : R α} {Q Q' : α → MH → Prop} {E : XE} (s : Sat r Q noX) (k : ∀ d h, Q d h → Q' d h) : Sat r Q' E := s.monoE k fun _ _ _ z => z.elim
theorem Sat.get {α : Type} {r : R α} {Q : α → MH → Prop} (s : Sat r Q noX) : ∃ d h, r = .ok d h ∧ Q d h := by
  cases r with
  | ok d h => rw [Sat_ok] at s; exact ⟨d, h, rfl, s⟩
  | exc x fs h => rw [Sat_exc] at s; exact s.elim
  | _ => rw [Sat_bad] at s; exact s.elim
theorem Sat.bnd {α β : Type} {r : R α} {f : α → MH → R β} {Q : β → MH → Prop} {E : XE} (s : Sat r (fun x h => Sat (f x h) Q E) E) : Sat (r.bind f) Q E := by
  cases r with
  | ok d h => rw [Sat_ok] at s; exact s
  | exc x fs h => rw [Sat_exc] at s; show Sat (.exc x fs h) Q E; rw [Sat_exc]; exact s
  | _ => rw [Sat_bad] at s; exact s.elim
theorem Sat.ot {α : Type} {r : R α} {ρ : Slots} {f : α → MH → Out} {N : SP} {T : D → MH → Prop} {B C : SP} {E : SX} (s : Sat r (fun x h => OS (f x h) N T B C E) (fun x fs h => E x fs ρ h)) : OS (r.out ρ f) N T B C E := by
  cases r with
  | ok d h => rw [Sat_ok] at s; exact s
  | exc x fs h => rw [Sat_exc] at s; show OS (.exc x fs ρ h) N T B C E; rw [OS_exc]; exact s
  | _ => rw [Sat_bad] at s; exact s.elim
theorem OS.mono {o : Out} {N N' : SP} {T T' : D → MH → Prop} {B B' C C' : SP} {E E' : SX} (s : OS o N T B C E) (kn : ∀ ρ h, N ρ h → N' ρ h) (kt : ∀ d h, T d h → T' d h) (kb : ∀ ρ h, B ρ h → B' ρ h) (kc : ∀ ρ h, C ρ h → C' ρ h) (ke : ∀ x fs ρ h, E x fs ρ h → E' x fs ρ h) : OS o N' T' B' C' E' := by
  cases o with
  | nx ρ h => rw [OS_nx] at s ⊢; exact kn ρ h s
  | rt d h => rw [OS_rt] at s ⊢; exact kt d h s
  | bk ρ h => rw [OS_bk] at s ⊢; exact kb ρ h s
  | ct ρ h => rw [OS_ct] at s ⊢; exact kc ρ h s
  | exc x fs ρ h => rw [OS_exc] at s ⊢; exact ke x fs ρ h s
  | bad => rw [OS_bad] at s; exact s.elim
theorem w_ok {α : Type} {Q : α → MH → Prop} {E : XE} {h : MH} {d : α} (q : Q d h) : Sat (.ok d h) Q E := by rw [Sat_ok]; exact q
theorem w_eq {α : Type} {Q : α → MH → Prop} {E : XE} {x : R α} {d : α} {h' : MH} (e : x = .ok d h') (q : Q d h') : Sat x Q E := by rw [e]; exact w_ok q
theorem w_nx {N : SP} {T : D → MH → Prop} {B C : SP} {E : SX} {ρ : Slots} {h : MH} (q : N ρ h) : OS (.nx ρ h) N T B C E := by rw [OS_nx]; exact q
theorem w_rt {N : SP} {T : D → MH → Prop} {B C : SP} {E : SX} {d : D} {h : MH} (q : T d h) : OS (.rt d h) N T B C E := by rw [OS_rt]; exact q
theorem w_bk {N : SP} {T : D → MH → Prop} {B C : SP} {E : SX} {ρ : Slots} {h : MH} (q : B ρ h) : OS (.bk ρ h) N T B C E := by rw [OS_bk]; exact q
theorem w_ct {N : SP} {T : D → MH → Prop} {B C : SP} {E : SX} {ρ : Slots} {h : MH} (q : C ρ h) : OS (.ct ρ h) N T B C E := by rw [OS_ct]; exact q
def Br (p A B : Prop) : Prop := (p → A) ∧ (¬p → B)
theorem br_t {p A B : Prop} (hp : p) (a : A) : Br p A B := ⟨fun _ => a, fun n => absurd hp n⟩
theorem br_f {p A B : Prop} (hp : ¬p) (b : B) : Br p A B := ⟨fun n => absurd n hp, fun _ => b⟩
theorem br_d {p : Prop} [Decidable p] {A B : Prop} (a : p → A) (b : ¬p → B) : Br (decide p = true) A B := ⟨fun n => a (of_decide_eq_true n), fun n => b (of_decide_eq_false (by simpa using n))⟩
theorem br_n {b : Bool} {A B : Prop} (a : Br (b = true) B A) : Br ((!b) = true) A B := ⟨fun n => a.2 (by simp at n; simp [n]), fun n => a.1 (by simpa using n)⟩
theorem br_dt {p : Prop} [Decidable p] {A B : Prop} (hp : p) (a : A) : Br (decide p = true) A B := br_t (decide_eq_true hp) a
theorem br_df {p : Prop} [Decidable p] {A B : Prop} (hp : ¬p) (a : B) : Br (decide p = true) A B := br_f (by simp [hp]) a
theorem br_tt {A B : Prop} (a : A) : Br (true = true) A B := br_t rfl a
theorem br_ff {A B : Prop} (b : B) : Br (false = true) A B := br_f (by decide) b
section
variable {α : Type} {Q : D → MH → Prop} {QA : List D → MH → Prop} {QB : Bool → MH → Prop} {QP : Option Int → MH → Prop} {QI : List D × (MH → Bool) → MH → Prop} {E : XE} {ρ : Slots} {h : MH} {a b c e : ME} {r : MA} {ta tb : MT} {lo hi : MP}
theorem w_var {i : Nat} {d : D} (e : ρ[i]? = some (some d)) (q : Q d h) : Sat (mVar i ρ h) Q E := by
  unfold mVar
  rw [e]
  exact w_ok q
theorem w_c {d : D} (q : Q d h) : Sat (mC d ρ h) Q E := w_ok q
theorem w_bin {f : D → D → MH → R D} (q : Sat (a ρ h) (fun x h1 => Sat (b ρ h1) (fun y h2 => Sat (f x y h2) Q E) E) E) : Sat (mBin f a b ρ h) Q E := Sat.bnd (q.monoE (fun _ _ z => Sat.bnd z) fun _ _ _ z => z)
theorem w_un {f : D → MH → R D} (q : Sat (a ρ h) (fun x h1 => Sat (f x h1) Q E) E) : Sat (mUn f a ρ h) Q E := Sat.bnd q
theorem w_nil (q : QA [] h) : Sat (mNil ρ h) QA E := w_ok q
theorem w_cons (q : Sat (a ρ h) (fun x h1 => Sat (r ρ h1) (fun xs h2 => QA (x :: xs) h2) E) E) : Sat (mCons a r ρ h) QA E := Sat.bnd (q.monoE (fun _ _ z => Sat.bnd (z.monoE (fun _ _ z => w_ok z) fun _ _ _ z => z)) fun _ _ _ z => z)
def toTup (xs : List D) (h1 : MH) : R D := if xs.length ≤ 1000000 then .ok (.tup xs) h1 else .bad
def toLst (xs : List D) (h1 : MH) : R D := if xs.length ≤ 1000000 then .ok (.ref h1.length) (h1 ++ [.lst xs]) else .bad
theorem w_tup (q : Sat (r ρ h) (fun xs h1 => Sat (toTup xs h1) Q E) E) : Sat (mTup r ρ h) Q E := Sat.bnd q
theorem w_lst (q : Sat (r ρ h) (fun xs h1 => Sat (toLst xs h1) Q E) E) : Sat (mLst r ρ h) Q E := Sat.bnd q
theorem w_toTup {xs : List D} (l : xs.length ≤ 1000000) (q : Q (.tup xs) h) : Sat (toTup xs h) Q E := by unfold toTup; rw [if_pos l]; exact w_ok q
theorem w_toLst {xs : List D} (l : xs.length ≤ 1000000) (q : Q (.ref h.length) (h ++ [.lst xs])) : Sat (toLst xs h) Q E := by unfold toLst; rw [if_pos l]; exact w_ok q
theorem w_call {F : List D → MH → R D} (q : Sat (r ρ h) (fun xs h1 => Sat (F xs h1) Q E) E) : Sat (mCall F r ρ h) Q E := Sat.bnd q
def unB (x : D) (h1 : MH) : R Bool := match x with
  | .bl b => .ok b h1
  | _ => .bad
theorem w_B (q : Sat (a ρ h) (fun x h1 => Sat (unB x h1) QB E) E) : Sat (mB a ρ h) QB E := by
  refine Sat.bnd (q.monoE (fun x _ z => ?_) fun _ _ _ z => z)
  cases x <;> exact z
theorem w_unB {b : Bool} (q : QB b h) : Sat (unB (.bl b) h) QB E := w_ok q
theorem br_if {p : Prop} [Decidable p] {α : Type} {x y : R α} {Q : α → MH → Prop} (q : Br p (Sat x Q E) (Sat y Q E)) : Sat (if p then x else y) Q E := by
  split
  · rename_i hp; exact q.1 hp
  · rename_i hp; exact q.2 hp
theorem w_and (q : Sat (ta ρ h) (fun x h1 => Br (x = true) (Sat (tb ρ h1) QB E) (QB false h1)) E) : Sat (mAnd ta tb ρ h) QB E := Sat.bnd (q.monoE (fun _ _ z => br_if ⟨z.1, fun n => w_ok (z.2 n)⟩) fun _ _ _ z => z)
theorem w_or (q : Sat (ta ρ h) (fun x h1 => Br (x = true) (QB true h1) (Sat (tb ρ h1) QB E)) E) : Sat (mOr ta tb ρ h) QB E := Sat.bnd (q.monoE (fun _ _ z => br_if ⟨fun n => w_ok (z.1 n), z.2⟩) fun _ _ _ z => z)
theorem w_not (q : Sat (ta ρ h) (fun x h1 => QB (!x) h1) E) : Sat (mNot ta ρ h) QB E := Sat.bnd (q.monoE (fun _ _ z => w_ok z) fun _ _ _ z => z)
def andK (b : ME) (ρ : Slots) (x : D) (h1 : MH) : R D := match x with
  | .bl true => b ρ h1
  | .bl false => .ok (.bl false) h1
  | _ => .bad
def orK (b : ME) (ρ : Slots) (x : D) (h1 : MH) : R D := match x with
  | .bl false => b ρ h1
  | .bl true => .ok (.bl true) h1
  | _ => .bad
def notK (x : D) (h1 : MH) : R D := match x with
  | .bl b => .ok (.bl (!b)) h1
  | _ => .bad
theorem w_andV (q : Sat (a ρ h) (fun x h1 => Sat (andK b ρ x h1) Q E) E) : Sat (mAndV a b ρ h) Q E := Sat.bnd q
theorem w_orV (q : Sat (a ρ h) (fun x h1 => Sat (orK b ρ x h1) Q E) E) : Sat (mOrV a b ρ h) Q E := Sat.bnd q
theorem w_notV (q : Sat (a ρ h) (fun x h1 => Sat (notK x h1) Q E) E) : Sat (mNotV a ρ h) Q E := Sat.bnd q
theorem w_andK {k : Bool} (q : Br (k = true) (Sat (b ρ h) Q E) (Q (.bl false) h)) : Sat (andK b ρ (.bl k) h) Q E := by
  cases k
  · exact w_ok (q.2 (by decide))
  · exact q.1 rfl
theorem w_orK {k : Bool} (q : Br (k = true) (Q (.bl true) h) (Sat (b ρ h) Q E)) : Sat (orK b ρ (.bl k) h) Q E := by
  cases k
  · exact q.2 (by decide)
  · exact w_ok (q.1 rfl)
theorem w_notK {k : Bool} (q : Q (.bl (!k)) h) : Sat (notK (.bl k) h) Q E := w_ok q
theorem w_ifE (q : Sat (ta ρ h) (fun x h1 => Br (x = true) (Sat (a ρ h1) Q E) (Sat (b ρ h1) Q E)) E) : Sat (mIfE ta a b ρ h) Q E := Sat.bnd (q.monoE (fun _ _ z => br_if z) fun _ _ _ z => z)
theorem w_sl (q : Sat (a ρ h) (fun x h1 => Sat (lo ρ h1) (fun l h2 => Sat (hi ρ h2) (fun u h3 => Sat (dSl x l u h3) Q E) E) E) E) : Sat (mSl a lo hi ρ h) Q E :=
  Sat.bnd (q.monoE (fun _ _ z => Sat.bnd (z.monoE (fun _ _ z => Sat.bnd z) fun _ _ _ z => z)) fun _ _ _ z => z)
theorem w_no (q : QP none h) : Sat (mNo ρ h) QP E := w_ok q
def unI (x : D) (h1 : MH) : R (Option Int) := match x with
  | .int i => .ok (some i) h1
  | _ => .bad
theorem w_some (q : Sat (a ρ h) (fun x h1 => Sat (unI x h1) QP E) E) : Sat (mSome a ρ h) QP E := by
  refine Sat.bnd (q.monoE (fun x _ z => ?_) fun _ _ _ z => z)
  cases x <;> exact z
theorem w_unI {i : Int} (q : QP (some i) h) : Sat (unI (.int i) h) QP E := w_ok q
theorem w_meth {T : D → MH → Bool} {f : D → List D → MH → R D} (q : Sat (a ρ h) (fun x h1 => T x h1 = true ∧ Sat (r ρ h1) (fun xs h2 => Sat (f x xs h2) Q E) E) E) : Sat (mMeth T f a r ρ h) Q E :=
  Sat.bnd (q.monoE (fun _ _ z => by
    rw [if_pos z.1]
    exact Sat.bnd z.2) fun _ _ _ z => z)
theorem w_isi {T : String} (q : Sat (a ρ h) (fun x h1 => Sat (isi1 T (.ok x h1)) Q E) E) : Sat (mIsi T a ρ h) Q E := Sat.bnd q
def iterK (x : D) (h1 : MH) : R (List D × (MH → Bool)) := iter1 (.ok x h1)
theorem w_iter (q : Sat (a ρ h) (fun x h1 => Sat (iter1 (.ok x h1)) QI E) E) : Sat (mIter a ρ h) QI E := Sat.bnd q
theorem w_range1 (q : Sat (a ρ h) (fun x h1 => Sat (dR1 rangeD x h1) QI E) E) : Sat (mRange1 a ρ h) QI E := Sat.bnd q
theorem w_rev1 (q : Sat (a ρ h) (fun x h1 => Sat (dR1 revRangeD x h1) QI E) E) : Sat (mRev1 a ρ h) QI E := Sat.bnd q
theorem w_range2 (q : Sat (a ρ h) (fun x h1 => Sat (b ρ h1) (fun y h2 => Sat (dR2 rangeD x y h2) QI E) E) E) : Sat (mRange2 a b ρ h) QI E := Sat.bnd (q.monoE (fun _ _ z => Sat.bnd z) fun _ _ _ z => z)
theorem w_rev2 (q : Sat (a ρ h) (fun x h1 => Sat (b ρ h1) (fun y h2 => Sat (dR2 revRangeD x y h2) QI E) E) E) : Sat (mRev2 a b ρ h) QI E := Sat.bnd (q.monoE (fun _ _ z => Sat.bnd z) fun _ _ _ z => z)
theorem lim_in {j : Int} (h0 : -1000000000000000000 ≤ j) (h1 : j ≤ 1000000000000000000) : lim62 j = true := by unfold lim62; simp; omega
theorem w_dR1 {f : Int → Nat → List D} {j : Int} (l : -1000000000000000000 ≤ j ∧ j ≤ 1000000000000000000) (q : QI (f 0 j.toNat, yes) h) : Sat (dR1 f (.int j) h) QI E := by
  unfold dR1; simp only [lim_in l.1 l.2, if_true]; exact w_ok q
theorem w_dR2 {f : Int → Nat → List D} {i j : Int} (l : (-1000000000000000000 ≤ i ∧ i ≤ 1000000000000000000) ∧ -1000000000000000000 ≤ j ∧ j ≤ 1000000000000000000) (q : QI (f i (j - i).toNat, yes) h) : Sat (dR2 f (.int i) (.int j) h) QI E := by
  unfold dR2; simp only [lim_in l.1.1 l.1.2, lim_in l.2.1 l.2.2, true_and, if_true]; exact w_ok q
def zipK (x y : D) (h2 : MH) : R (List D × (MH → Bool)) := match x, y with
  | .ref i, .ref j => match getL h2 i, getL h2 j with
    | some l, some m => .ok (zipD l m, fun h' => decide (getL h' i = some l) && decide (getL h' j = some m)) h2
    | _, _ => .bad
  | _, _ => .bad
theorem w_zip (q : Sat (a ρ h) (fun x h1 => Sat (b ρ h1) (fun y h2 => Sat (zipK x y h2) QI E) E) E) : Sat (mZip a b ρ h) QI E := Sat.bnd (q.monoE (fun _ _ z => Sat.bnd z) fun _ _ _ z => z)
theorem w_lc {it : MI} {tg : MG} {vs : List Nat} (q : Sat (it ρ h) (fun a h1 => Sat (lcGo a.2 tg ta e h1.length (wipeD ρ vs) a.1 (h1 ++ [.lst []])) Q E) E) : Sat (mLc it tg ta e vs ρ h) Q E := Sat.bnd q
theorem w_revL (q : Sat (a ρ h) (fun x h1 => Sat (dRevL x h1) Q E) E) : Sat (mRevL a ρ h) Q E := Sat.bnd q
theorem w_dRevL {i : Nat} {l : List D} (hl : getL h i = some l) (q : Q (.ref h.length) (h ++ [.lst l.reverse])) : Sat (dRevL (.ref i) h) Q E := by
  simp only [dRevL, hl]; exact w_ok q
def lrK (x : D) (h : MH) : R D := match x with
  | .int j => lstRg 0 j h
  | _ => .bad
theorem w_listRg1 (q : Sat (a ρ h) (fun x h1 => Sat (lrK x h1) Q E) E) : Sat (mListRg1 a ρ h) Q E := Sat.bnd q
theorem w_tindex (q : Sat (a ρ h) (fun x h1 => ∃ l, x = .tup l ∧ Sat (b ρ h1) (fun y h2 => Sat (dTIdx x y h2) Q E) E) E) : Sat (mTIndex a b ρ h) Q E := Sat.bnd (q.monoE (fun _ _ z => by
  obtain ⟨l, rfl, z⟩ := z
  exact Sat.bnd z) fun _ _ _ z => z)
theorem w_dict0 (q : Q (.ref h.length) (h ++ [.dK []])) : Sat (mDict0 ρ h) Q E := w_ok q
def chK (f' : D → D → MH → R D) (c : ME) (ρ : Slots) (y z : D) (h3 : MH) : R D := match z with
  | .bl true => (c ρ h3).bind fun w h4 => f' y w h4
  | .bl false => .ok (.bl false) h3
  | _ => .bad
theorem w_chain {f f' : D → D → MH → R D} (q : Sat (a ρ h) (fun x h1 => Sat (b ρ h1) (fun y h2 => Sat (f x y h2) (fun z h3 => Sat (chK f' c ρ y z h3) Q E) E) E) E) : Sat (mChain f f' a b c ρ h) Q E :=
  Sat.bnd (q.monoE (fun _ _ z => Sat.bnd (z.monoE (fun _ _ z => Sat.bnd z) fun _ _ _ z => z)) fun _ _ _ z => z)
theorem w_chK {f' : D → D → MH → R D} {y : D} {k : Bool} (q : Br (k = true) (Sat (c ρ h) (fun w h4 => Sat (f' y w h4) Q E) E) (Q (.bl false) h)) : Sat (chK f' c ρ y (.bl k) h) Q E := by
  cases k
  · exact w_ok (q.2 (by decide))
  · exact Sat.bnd (q.1 rfl)
end
section
variable {N : SP} {T : D → MH → Prop} {B C : SP} {E : SX} {ρ : Slots} {h : MH} {a b c e : ME} {r : MA} {ta tb : MT} {sa sb : MS}
theorem w_seq (q : OS (sa ρ h) (fun ρ' h' => OS (sb ρ' h') N T B C E) T B C E) : OS (mSeq sa sb ρ h) N T B C E := by
  unfold mSeq
  cases e : sa ρ h with
  | nx ρ' h' => rw [e, OS_nx] at q; exact q
  | rt d h' => rw [e, OS_rt] at q; exact w_rt q
  | bk ρ' h' => rw [e, OS_bk] at q; exact w_bk q
  | ct ρ' h' => rw [e, OS_ct] at q; exact w_ct q
  | exc x fs ρ' h' => rw [e, OS_exc] at q; simp only [OS_exc]; exact q
  | bad => rw [e, OS_bad] at q; exact q.elim
theorem w_skip (q : N ρ h) : OS (mSkip ρ h) N T B C E := w_nx q
theorem w_brk (q : B ρ h) : OS (mBreak ρ h) N T B C E := w_bk q
theorem w_cont (q : C ρ h) : OS (mCont ρ h) N T B C E := w_ct q
theorem w_retN (q : T .non h) : OS (mRetN ρ h) N T B C E := w_rt q
theorem w_drop (q : Sat (e ρ h) (fun _ h' => N ρ h') fun x fs h => E x fs ρ h) : OS (mDrop e ρ h) N T B C E := Sat.ot (q.monoE (fun _ _ z => w_nx z) fun _ _ _ z => z)
theorem w_ret (q : Sat (e ρ h) T fun x fs h => E x fs ρ h) : OS (mRet e ρ h) N T B C E := Sat.ot (q.monoE (fun _ _ z => w_rt z) fun _ _ _ z => z)
theorem w_if (q : Sat (ta ρ h) (fun x h1 => Br (x = true) (OS (sa ρ h1) N T B C E) (OS (sb ρ h1) N T B C E)) fun x fs h => E x fs ρ h) : OS (mIf ta sa sb ρ h) N T B C E := Sat.ot (q.monoE (fun _ _ z => by
  split
  · rename_i hp; exact z.1 hp
  · rename_i hp; exact z.2 hp) fun _ _ _ z => z)
theorem w_asg {i : Nat} (q : Sat (e ρ h) (fun d h' => N (ρ.set i (some d)) h') fun x fs h => E x fs ρ h) : OS (mAsg i e ρ h) N T B C E := Sat.ot (q.monoE (fun _ _ z => w_nx z) fun _ _ _ z => z)
theorem w_asgT {m : MG} (q : Sat (e ρ h) (fun d h' => ∃ ρ', m d ρ = some ρ' ∧ N ρ' h') fun x fs h => E x fs ρ h) : OS (mAsgT m e ρ h) N T B C E := Sat.ot (q.monoE (fun _ _ z => by
  obtain ⟨ρ', e1, z⟩ := z
  rw [e1]
  exact w_nx z) fun _ _ _ z => z)
theorem w_setIx (q : Sat (e ρ h) (fun d h1 => Sat (a ρ h1) (fun x h2 => Sat (b ρ h2) (fun y h3 => Sat (dSet x y d h3) (fun _ h4 => N ρ h4) fun x fs h => E x fs ρ h) fun x fs h => E x fs ρ h) fun x fs h => E x fs ρ h) fun x fs h => E x fs ρ h) : OS (mSetIx a b e ρ h) N T B C E :=
  Sat.ot (q.monoE (fun _ _ z => Sat.ot (z.monoE (fun _ _ z => Sat.ot (z.monoE (fun _ _ z => Sat.ot (z.monoE (fun _ _ z => w_nx z) fun _ _ _ z => z)) fun _ _ _ z => z)) fun _ _ _ z => z)) fun _ _ _ z => z)
theorem w_for {it : MI} {tg : MG} (q : Sat (it ρ h) (fun x h1 => OS (forGo x.2 tg sa x.1 ρ h1) N T B C E) fun x fs h => E x fs ρ h) : OS (mFor it tg sa ρ h) N T B C E := Sat.ot q
theorem w_fun {n M : Nat} {ds : List D} {Q : D → MH → Prop} {E : XE} (q : OS (sa (startD n M ds) h) (fun _ h' => Q .non h') Q noS noS fun x fs _ h => E x fs h) (hl : ds.length = n := by rfl) : Sat (mFun n M sa ds h) Q E := by
  unfold mFun
  rw [if_pos hl]
  cases e : sa (startD n M ds) h with
  | nx ρ' h' => rw [e, OS_nx] at q; exact w_ok q
  | rt d h' => rw [e, OS_rt] at q; exact w_ok q
  | bk ρ' h' => rw [e, OS_bk] at q; exact q.elim
  | ct ρ' h' => rw [e, OS_ct] at q; exact q.elim
  | exc x fs ρ' h' => rw [e, OS_exc] at q; simp only [Sat_exc]; exact q
  | bad => rw [e, OS_bad] at q; exact q.elim
/-- a loop: what holds between two turns -/
theorem w_loop {gd : MH → Bool} {tg : MG} {body : MS} (I : Nat → SP) : ∀ {items : List D} {k : Nat} {ρ : Slots} {h : MH}, I k ρ h →
    (∀ i ρ h, I i ρ h → gd h = true) →
    (∀ i d ρ h, items[i]? = some d → I (k + i) ρ h → ∃ ρ1, tg d ρ = some ρ1 ∧ OS (body ρ1 h) (I (k + i + 1)) T N (I (k + i + 1)) E) →
    (∀ ρ h, I (k + items.length) ρ h → N ρ h) → OS (forGo gd tg body items ρ h) N T B C E
  | [], k, ρ, h, h0, hg, hs, hn => by
    rw [forGo, if_pos (hg k ρ h h0)]
    exact w_nx (hn _ _ h0)
  | d :: ds, k, ρ, h, h0, hg, hs, hn => by
    obtain ⟨ρ1, e1, q⟩ := hs 0 d ρ h rfl h0
    have go : ∀ ρ' h', I (k + 0 + 1) ρ' h' → OS (forGo gd tg body ds ρ' h') N T B C E := fun ρ' h' i => w_loop I (k := k + 1) (ρ := ρ') (h := h') i hg (fun i d' ρ h hd hi => by
      have e3 : k + (i + 1) = k + 1 + i := by omega
      have := hs (i + 1) d' ρ h (by simpa using hd) (by rw [e3]; exact hi)
      rw [e3] at this
      exact this) (fun ρ h hi => hn ρ h (by rw [List.length_cons]; have e3 : k + (ds.length + 1) = k + 1 + ds.length := by omega
                                            rw [e3]; exact hi))
    rw [forGo, if_pos (hg k ρ h h0), e1]
    cases e2 : body ρ1 h with
    | nx ρ' h' => rw [e2, OS_nx] at q; simp only [e2]; exact go ρ' h' q
    | ct ρ' h' => rw [e2, OS_ct] at q; simp only [e2]; exact go ρ' h' q
    | bk ρ' h' => rw [e2, OS_bk] at q; simp only [e2]; exact w_nx q
    | rt d h' => rw [e2, OS_rt] at q; simp only [e2]; exact w_rt q
    | exc x fs ρ' h' => rw [e2, OS_exc] at q; simp only [e2, OS_exc]; exact q
    | bad => rw [e2, OS_bad] at q; exact q.elim
theorem w_loop0 {gd : MH → Bool} {tg : MG} {body : MS} (I : Nat → SP) {items : List D} {ρ : Slots} {h : MH} (h0 : I 0 ρ h)
    (hg : ∀ i ρ h, I i ρ h → gd h = true)
    (hs : ∀ i d ρ h, items[i]? = some d → I i ρ h → ∃ ρ1, tg d ρ = some ρ1 ∧ OS (body ρ1 h) (I (i + 1)) T N (I (i + 1)) E)
    (hn : ∀ ρ h, I items.length ρ h → N ρ h) : OS (forGo gd tg body items ρ h) N T B C E :=
  w_loop I (k := 0) h0 hg (fun i d ρ h hd hi => by rw [Nat.zero_add] at hi ⊢; exact hs i d ρ h hd hi) (fun ρ h hi => hn ρ h (by rw [Nat.zero_add] at hi; exact hi))
/-- a comprehension: what holds between two turns, of the list so far -/
theorem w_comp {gd : MH → Bool} {tg : MG} {tt : MT} {te : ME} {c : Nat} {ρ : Slots} {Q : D → MH → Prop} {E : XE} (I : Nat → List D → MH → Prop) : ∀ {items : List D} {k : Nat} {acc : List D} {h : MH}, I k acc h → h[c]? = some (.lst acc) → acc.length + items.length ≤ 1000000 →
    (∀ i acc h, I i acc h → gd h = true) →
    (∀ i d acc h, items[i]? = some d → I (k + i) acc h → h[c]? = some (.lst acc) → ∃ ρ1, tg d ρ = some ρ1 ∧ ∃ b h1, tt ρ1 h = .ok b h1 ∧ (b = false → h1[c]? = some (.lst acc) ∧ I (k + i + 1) acc h1) ∧ (b = true → Sat (te ρ1 h1) (fun y h2 => h2[c]? = some (.lst acc) ∧ I (k + i + 1) (acc ++ [y]) (h2.set c (.lst (acc ++ [y])))) noX)) →
    (∀ acc h, I (k + items.length) acc h → h[c]? = some (.lst acc) → Q (.ref c) h) → Sat (lcGo gd tg tt te c ρ items h) Q E
  | [], k, acc, h, h0, hc, hl, hg, hs, hn => by
    rw [lcGo, if_pos (hg k acc h h0)]
    exact w_ok (hn _ _ h0 hc)
  | d :: ds, k, acc, h, h0, hc, hl, hg, hs, hn => by
    obtain ⟨ρ1, e1, b, h1, e2, q1, q2⟩ := hs 0 d acc h rfl h0 hc
    rw [List.length_cons] at hl
    have go : ∀ acc' h', acc'.length ≤ acc.length + 1 → I (k + 0 + 1) acc' h' → h'[c]? = some (.lst acc') → Sat (lcGo gd tg tt te c ρ ds h') Q E := fun acc' h' l i hc' => w_comp I (k := k + 1) (acc := acc') (h := h') i hc' (by omega) hg (fun i d' acc h hd hi hc => by
      have e3 : k + (i + 1) = k + 1 + i := by omega
      have := hs (i + 1) d' acc h (by simpa using hd) (by rw [e3]; exact hi) hc
      rw [e3] at this
      exact this) (fun acc h hi => hn acc h (by rw [List.length_cons]; have e3 : k + (ds.length + 1) = k + 1 + ds.length := by omega
                                                rw [e3]; exact hi))
    rw [lcGo, if_pos (hg k acc h h0), e1]
    cases b with
    | false =>
      simp only [e2]
      obtain ⟨q3, q4⟩ := q1 rfl
      exact go _ _ (by omega) q4 q3
    | true =>
      simp only [e2]
      obtain ⟨y, h2, e3, q3, q4⟩ := (q2 rfl).get
      simp only [e3, q3]
      rw [if_pos (by omega)]
      refine go _ _ (by simp) q4 ?_
      have : c < h2.length := (List.getElem?_eq_some_iff.mp q3).1
      simp [this]
/-- a comprehension whose parts change nothing -/
theorem w_compP {gd : MH → Bool} {tg : MG} {te : ME} {ρ : Slots} {Q : D → MH → Prop} {E : XE} {h0 : MH} (P : Nat → D → Prop) {items : List D} (hl : items.length ≤ 1000000)
    (hg : ∀ t, gd (h0 ++ t) = true)
    (hs : ∀ i d t, items[i]? = some d → ∃ ρ1, tg d ρ = some ρ1 ∧ Sat (te ρ1 (h0 ++ t)) (fun y h2 => h2 = h0 ++ t ∧ P i y) noX)
    (hn : ∀ ys : List D, ys.length = items.length → (∀ i y, ys[i]? = some y → P i y) → Q (.ref h0.length) (h0 ++ [.lst ys])) : Sat (lcGo gd tg mYes te h0.length ρ items (h0 ++ [.lst []])) Q E := by
  refine w_comp (fun k acc h => acc.length = k ∧ h = h0 ++ [.lst acc] ∧ ∀ i y, acc[i]? = some y → P i y) ⟨rfl, rfl, fun i y e => by simp at e⟩ (by simp) (by simpa using hl) (fun i acc h hi => by rw [hi.2.1]; exact hg _) ?_ ?_
  · rintro i d acc h hd ⟨ha, rfl, hp⟩ hc
    obtain ⟨ρ1, e1, s⟩ := hs i d [.lst acc] hd
    refine ⟨ρ1, e1, true, _, rfl, (fun z => Bool.noConfusion z), fun _ => s.mono ?_⟩
    rintro y h2 ⟨rfl, hy⟩
    refine ⟨hc, by simp [ha], by simp, fun j z hz => ?_⟩
    rcases Nat.lt_or_ge j acc.length with q | q
    · rw [List.getElem?_append_left q] at hz
      exact hp j z hz
    · rw [List.getElem?_append_right q] at hz
      have : j - acc.length = 0 := by
        have := (List.getElem?_eq_some_iff.mp hz).1
        simp at this; omega
      rw [this] at hz
      simp at hz
      subst hz
      have : j = i := by simp at ha; omega
      subst this
      exact hy
  · rintro acc h ⟨ha, rfl, hp⟩ hc
    exact hn acc (by simpa using ha) hp
end
/-! leaves -/
section
variable {Q : D → MH → Prop} {E : XE} {h : MH} {i j : Int} {x y : Str} {l m : List D}
theorem w_mod (c : 0 < j) (q : Q (.int (i % j)) h) : Sat (dMod (.int i) (.int j) h) Q E := w_eq (by rw [dMod_int, if_pos c]) q
theorem w_fdiv (c : 0 < j ∧ j < 18446744073709551616) (q : Q (.int (i / j)) h) : Sat (dFdiv (.int i) (.int j) h) Q E := w_eq (dFdiv_small i j h c.1 c.2) q
theorem w_mulS (c : (-18446744073709551616 < i ∧ i < 18446744073709551616) ∧ -18446744073709551616 < j ∧ j < 18446744073709551616) (q : Q (.int (i * j)) h) : Sat (dMul (.int i) (.int j) h) Q E := w_eq (dMul_s i j h c.1.1 c.1.2 c.2.1 c.2.2) q
theorem w_mulB {a b : Nat} (ha : Builtin.Int.intBits i ≤ a) (hb : Builtin.Int.intBits j ≤ b) (hab : a + b ≤ 134217728) (q : Q (.int (i * j)) h) : Sat (dMul (.int i) (.int j) h) Q E := w_eq (dMul_bits i j h ha hb hab) q
theorem w_addS (c : x.length + y.length ≤ 1000000) (q : Q (.str (x ++ y)) h) : Sat (dAdd (.str x) (.str y) h) Q E := w_eq (by rw [dAdd_str, if_pos c]) q
theorem w_addT (c : l.length + m.length ≤ 1000000) (q : Q (.tup (l ++ m)) h) : Sat (dAdd (.tup l) (.tup m) h) Q E := w_eq (by rw [dAdd_tup, if_pos c]) q
theorem w_addL {i j : Nat} (hi : h[i]? = some (.lst l)) (hj : h[j]? = some (.lst m)) (c : l.length + m.length ≤ 1000000) (q : Q (.ref h.length) (h ++ [.lst (l ++ m)])) : Sat (dAdd (.ref i) (.ref j) h) Q E := w_eq (by simp only [dAdd, hi, hj, if_pos c]) q
theorem w_pow {n : Nat} (c : n ≤ 1000000 ∧ i.natAbs < 2 ^ 64) (q : Q (.int (i ^ n)) h) : Sat (dPow (.int i) (.int (n : Int)) h) Q E := w_eq (by rw [dPow_int, if_pos (by omega), Int.toNat_natCast]) q
theorem w_lenS (c : x.length ≤ 1000000) (q : Q (.int x.length) h) : Sat (dLen [.str x] h) Q E := w_eq (by rw [dLen_str, if_pos c]) q
theorem w_lenL {i : Nat} (c : getL h i = some l) (q : Q (.int l.length) h) : Sat (dLen [.ref i] h) Q E := w_eq (dLen_ref c) q
theorem w_slS {lo hi : Option Int} (c : x.length ≤ 1000000) (q : Q (.str (cutS x lo hi)) h) : Sat (dSl (.str x) lo hi h) Q E := w_eq (by rw [dSl_str, if_pos c]) q
theorem w_slL {i : Nat} {lo hi : Option Int} (c : getL h i = some l) (q : Q (.ref h.length) (h ++ [.lst (cutD l lo hi)])) : Sat (dSl (.ref i) lo hi h) Q E := w_eq (dSl_ref c lo hi) q
theorem w_ixL {k : Nat} {d : D} (c : getL h k = some l) (e : atI l i = some d) (q : Q d h) : Sat (dIx (.ref k) (.int i) h) Q E := w_eq (dIx_ref c e) q
theorem w_ixT {d : D} (e : atI l i = some d) (q : Q d h) : Sat (dIx (.tup l) (.int i) h) Q E := w_eq (dIx_tup h e) q
theorem w_ixS {c : Nat} (hz : x.length ≤ 1000000) (e : atI x.cps.toList i = some c) (q : Q (.str ⟨#[c]⟩) h) : Sat (dIx (.str x) (.int i) h) Q E := w_eq (dIx_str h hz e) q
theorem getL_of {i : Nat} (e : h[i]? = some (.lst l)) : getL h i = some l := by unfold getL; rw [e]
theorem w_app {i : Nat} {d : D} (e : h[i]? = some (.lst l)) (c : l.length < 1000000) (q : Q .non (h.set i (.lst (l ++ [d])))) : Sat (dAppend (.ref i) [d] h) Q E := w_eq (by simp only [dAppend, e, if_pos c]) q
theorem w_pop {i : Nat} {d : D} (e : h[i]? = some (.lst (l ++ [d]))) (q : Q d (h.set i (.lst l))) : Sat (dPop (.ref i) [] h) Q E := w_eq (by simp [dPop, e]) q
theorem w_tupL {i : Nat} (c : getL h i = some l) (q : Q (.tup l) h) : Sat (dTuple [.ref i] h) Q E := w_eq (by simp [dTuple, seqOf, c]) q
theorem w_eqK {a b : D} {k : Bool} (e : eqD a b h = some k) (q : Q (.bl k) h) : Sat (dEq a b h) Q E := w_eq (dEq_of e) q
theorem w_neK {a b : D} {k : Bool} (e : eqD a b h = some k) (q : Q (.bl (!k)) h) : Sat (dNe a b h) Q E := w_eq (dNe_of e) q
theorem allBl_map (bs : List Bool) : allBl (bs.map D.bl) = some bs := by
  induction bs with
  | nil => rfl
  | cons b bs ih => simp [allBl, ih]
theorem w_all {i : Nat} {bs : List Bool} (e : getL h i = some (bs.map .bl)) (q : Q (.bl (bs.all id)) h) : Sat (dAll [.ref i] h) Q E := w_eq (by simp [dAll, e, allBl_map]) q
theorem allStr_map (bs : List Str) : allStr (bs.map D.str) = some bs := by
  induction bs with
  | nil => rfl
  | cons b bs ih => simp [allStr, ih]
theorem w_join {i : Nat} {ys : List Str} (e : getL h i = some (ys.map .str)) (c : (ys.map (·.length)).sum + ys.length * x.length ≤ 1000000) (q : Q (.str (Txt.join x ys)) h) : Sat (dJoin (.str x) [.ref i] h) Q E := w_eq (by simp only [dJoin, seqOf, e, Option.bind_some, allStr_map, if_pos c]) q
end
end Mi

/-! Lists of one's own: h goes on from h0, and the listed cells behind it are known. -/
namespace Mi
open PySem L2
abbrev LL := List (Nat × List D)
structure Own (h0 h : MH) (L : LL) : Prop where
  pre : h0 <+: h
  cell : ∀ p ∈ L, h0.length ≤ p.1 ∧ h[p.1]? = some (.lst p.2)
  nd : (L.map (·.1)).Nodup
section
variable {h0 h h' h1 : MH} {L M : LL} {i : Nat} {l l' : List D}
theorem Own.nil (h : MH) : Own h h [] := ⟨List.prefix_rfl, fun p hp => by simp at hp, List.nodup_nil⟩
theorem pre_get (p : h <+: h') {o : MO} (e : h[i]? = some o) : h'[i]? = some o := by
  obtain ⟨t, rfl⟩ := p
  rw [List.getElem?_append_left (List.getElem?_eq_some_iff.mp e).1]
  exact e
theorem pre_getL (p : h <+: h') (e : getL h i = some l) : getL h' i = some l := by
  obtain ⟨t, rfl⟩ := p
  have hi : i < h.length := by
    cases q : h[i]? with
    | none => simp [getL, q] at e
    | some o => exact (List.getElem?_eq_some_iff.mp q).1
  unfold getL
  rw [List.getElem?_append_left hi]
  exact e
theorem Own.getL (o : Own h0 h L) (e : getL h0 i = some l) : getL h i = some l := pre_getL o.pre e
theorem Own.ext (o : Own h0 h L) (p : h <+: h') : Own h0 h' L := ⟨o.pre.trans p, fun q hq => ⟨(o.cell q hq).1, pre_get p (o.cell q hq).2⟩, o.nd⟩
theorem Own.lt (o : Own h0 h L) {p : Nat × List D} (hp : p ∈ L) : p.1 < h.length := (List.getElem?_eq_some_iff.mp (o.cell p hp).2).1
theorem Own.add (o : Own h0 h L) (hi : h0.length ≤ i) (e : h[i]? = some (.lst l)) (n : ∀ p ∈ L, p.1 ≠ i) : Own h0 h ((i, l) :: L) :=
  ⟨o.pre, fun q hq => by
    rcases List.mem_cons.mp hq with rfl | hq
    · exact ⟨hi, e⟩
    · exact o.cell q hq, List.nodup_cons.mpr ⟨fun hm => by
      obtain ⟨p, hp, rfl⟩ := List.mem_map.mp hm
      exact n p hp rfl, o.nd⟩⟩
theorem Own.alloc (o : Own h0 h L) (xs : List D) : Own h0 (h ++ [.lst xs]) ((h.length, xs) :: L) :=
  (o.ext (List.prefix_append _ _)).add (o.pre.length_le) (by simp) fun p hp => Nat.ne_of_lt (o.lt hp)
theorem Own.at (o : Own h0 h L) (n : Nat) (e : L[n]? = some (i, l)) : h[i]? = some (.lst l) := (o.cell _ (List.mem_of_getElem? e)).2
theorem Own.atL (o : Own h0 h L) (n : Nat) (e : L[n]? = some (i, l)) : Mi.getL h i = some l := getL_of (o.at n e)
theorem Own.isL (o : Own h0 h L) (n : Nat) (e : L[n]? = some (i, l)) : isListD (.ref i) h = true := by rw [isListD_ref, o.atL n e]; rfl
theorem Own.setAt (o : Own h0 h L) (n : Nat) (e : L[n]? = some (i, l)) (l' : List D) : Own h0 (h.set i (.lst l')) (L.set n (i, l')) := by
  have hn : n < L.length := (List.getElem?_eq_some_iff.mp e).1
  have en : L[n] = (i, l) := (List.getElem?_eq_some_iff.mp e).2
  have hi : i < h.length := o.lt (List.mem_of_getElem? e)
  have h0i : h0.length ≤ i := (o.cell _ (List.mem_of_getElem? e)).1
  have em : (L.set n (i, l')).map (·.1) = L.map (·.1) := by
    rw [List.map_set]
    refine List.ext_getElem (by simp) fun k h1 h2 => ?_
    rw [List.getElem_set]
    split
    · rename_i q
      subst q
      rw [List.getElem_map, en]
    · rfl
  refine ⟨?_, fun q hq => ?_, by rw [em]; exact o.nd⟩
  · obtain ⟨t, rfl⟩ := o.pre
    rw [List.set_append_right _ _ h0i]
    exact List.prefix_append _ _
  · obtain ⟨k, hk, e2⟩ := List.mem_iff_getElem.mp hq
    rw [List.getElem_set] at e2
    split at e2
    · subst e2
      exact ⟨h0i, by simp [hi]⟩
    · rename_i hne
      have hk' : k < L.length := by simpa using hk
      have hm : q ∈ L := e2 ▸ List.getElem_mem hk'
      refine ⟨(o.cell q hm).1, ?_⟩
      rw [List.getElem?_set_ne]
      · exact (o.cell q hm).2
      · intro z
        have h1 : (L.map (·.1))[n]'(by simpa using hn) = (L.map (·.1))[k]'(by simpa using hk') := by
          rw [List.getElem_map, List.getElem_map, en, e2]
          exact z
        exact hne ((List.getElem_inj o.nd).mp h1)
theorem Own.trans (o : Own h0 h L) (o' : Own h h' M) : Own h0 h' (M ++ L) := by
  have o2 := o.ext o'.pre
  refine ⟨o2.pre, fun q hq => ?_, ?_⟩
  · rcases List.mem_append.mp hq with hq | hq
    · exact ⟨Nat.le_trans o.pre.length_le (o'.cell q hq).1, (o'.cell q hq).2⟩
    · exact o2.cell q hq
  · rw [List.map_append, List.nodup_append]
    refine ⟨o'.nd, o.nd, fun a ha b hb => ?_⟩
    obtain ⟨p, hp, rfl⟩ := List.mem_map.mp ha
    obtain ⟨q, hq, rfl⟩ := List.mem_map.mp hb
    have h1 := (o'.cell p hp).1
    have h2 := o.lt hq
    omega
theorem Own.sub (o : Own h0 h L) (s : M.Sublist L) : Own h0 h M := ⟨o.pre, fun p hp => o.cell p (s.subset hp), (s.map _).nodup o.nd⟩
theorem Own.tail {p : Nat × List D} (o : Own h0 h (p :: L)) : Own h0 h L := o.sub (List.sublist_cons_self _ _)
theorem Own.none (o : Own h0 h L) : Own h0 h [] := o.sub (List.nil_sublist _)
theorem Own.head {p : Nat × List D} (o : Own h0 h (p :: L)) : Own h0 h [p] := o.sub (List.Sublist.cons_cons _ (List.nil_sublist _))
theorem Own.ne (o : Own h0 h L) {a b : Nat} {p q : Nat × List D} (ha : L[a]? = some p) (hb : L[b]? = some q) (n : a ≠ b) : p.1 ≠ q.1 := by
  intro z
  have h1 := (List.getElem?_eq_some_iff.mp ha)
  have h2 := (List.getElem?_eq_some_iff.mp hb)
  refine n ((List.getElem_inj o.nd (i := a) (j := b) (h₀ := by simpa using h1.1) (h₁ := by simpa using h2.1)).mp ?_)
  rw [List.getElem_map, List.getElem_map, h1.2, h2.2]
  exact z
/-! rules -/
variable {Q : D → MH → Prop} {E : XE}
theorem o_new {xs : List D} (o : Own h0 h L) (l : xs.length ≤ 1000000) (q : ∀ i h', Own h0 h' ((i, xs) :: L) → Q (.ref i) h') : Sat (toLst xs h) Q E := w_toLst l (q _ _ (o.alloc xs))
theorem o_app {d : D} (o : Own h0 h L) (n : Nat) (e : L[n]? = some (i, l)) (c : l.length < 1000000) (q : ∀ h', Own h0 h' (L.set n (i, l ++ [d])) → Q .non h') : Sat (dAppend (.ref i) [d] h) Q E := w_app (o.at n e) c (q _ (o.setAt n e _))
theorem o_rev (o : Own h0 h L) (hl : Mi.getL h i = some l) (q : ∀ i h', Own h0 h' ((i, l.reverse) :: L) → Q (.ref i) h') : Sat (dRevL (.ref i) h) Q E := w_dRevL hl (q _ _ (o.alloc _))
theorem o_sl {lo hi : Option Int} (o : Own h0 h L) (hl : Mi.getL h i = some l) (q : ∀ i h', Own h0 h' ((i, cutD l lo hi) :: L) → Q (.ref i) h') : Sat (dSl (.ref i) lo hi h) Q E := w_slL hl (q _ _ (o.alloc _))
theorem o_add {j : Nat} {m : List D} (o : Own h0 h L) (hi : h[i]? = some (.lst l)) (hj : h[j]? = some (.lst m)) (c : l.length + m.length ≤ 1000000) (q : ∀ i h', Own h0 h' ((i, l ++ m) :: L) → Q (.ref i) h') : Sat (dAdd (.ref i) (.ref j) h) Q E := w_addL hi hj c (q _ _ (o.alloc _))
theorem o_pop {d : D} (o : Own h0 h L) (n : Nat) (e : L[n]? = some (i, l ++ [d])) (q : ∀ h', Own h0 h' (L.set n (i, l)) → Q d h') : Sat (dPop (.ref i) [] h) Q E := w_pop (o.at n e) (q _ (o.setAt n e _))
/-- a comprehension whose parts change nothing -/
theorem o_comp {gd : MH → Bool} {tg : MG} {te : ME} {ρ : Slots} (P : Nat → D → Prop) {items : List D} (o : Own h0 h L) (hl : items.length ≤ 1000000)
    (hg : ∀ h', h <+: h' → gd h' = true)
    (hs : ∀ i d h', items[i]? = some d → h <+: h' → ∃ ρ1, tg d ρ = some ρ1 ∧ Sat (te ρ1 h') (fun y h2 => h2 = h' ∧ P i y) noX)
    (hn : ∀ ys : List D, ys.length = items.length → (∀ i y, ys[i]? = some y → P i y) → ∀ i h', Own h0 h' ((i, ys) :: L) → Q (.ref i) h') : Sat (lcGo gd tg mYes te h.length ρ items (h ++ [.lst []])) Q E :=
  w_compP P hl (fun t => hg _ (List.prefix_append _ _)) (fun i d t hd => hs i d _ hd (List.prefix_append _ _)) fun ys hy hp => hn ys hy hp _ _ (o.alloc ys)
/-- a comprehension whose parts change lists of one's own -/
theorem o_compS {σ : Type} {gd : MH → Bool} {tg : MG} {te : ME} {ρ : Slots} (Lf : σ → LL) (I : Nat → List D → σ → Prop) {s0 : σ} {items : List D} (o : Own h0 h (Lf s0)) (i0 : I 0 [] s0) (hl : items.length ≤ 1000000)
    (hg : ∀ c acc s h', Own h0 h' ((c, acc) :: Lf s) → gd h' = true)
    (hs : ∀ i d acc s c h', items[i]? = some d → acc.length = i → I i acc s → Own h0 h' ((c, acc) :: Lf s) → ∃ ρ1, tg d ρ = some ρ1 ∧ Sat (te ρ1 h') (fun y h2 => ∃ s', Own h0 h2 ((c, acc) :: Lf s') ∧ I (i + 1) (acc ++ [y]) s') noX)
    (hn : ∀ acc s c h', acc.length = items.length → I items.length acc s → Own h0 h' ((c, acc) :: Lf s) → Q (.ref c) h') : Sat (lcGo gd tg mYes te h.length ρ items (h ++ [.lst []])) Q E := by
  refine w_comp (fun k acc h' => acc.length = k ∧ ∃ s, I k acc s ∧ Own h0 h' ((h.length, acc) :: Lf s)) (k := 0) ⟨rfl, s0, i0, o.alloc []⟩ (by simp) (by simpa using hl) (fun i acc h' hi => by
    obtain ⟨_, s, _, hi⟩ := hi
    exact hg _ _ _ _ hi) ?_ ?_
  · rintro i d acc h' hd ⟨ha, s, hi, ho⟩ hc
    rw [Nat.zero_add] at ha hi ⊢
    obtain ⟨ρ1, e1, q⟩ := hs i d acc s _ h' hd ha hi ho
    refine ⟨ρ1, e1, true, _, rfl, (fun z => Bool.noConfusion z), fun _ => q.mono ?_⟩
    rintro y h2 ⟨s', o2, i2⟩
    exact ⟨o2.at 0 rfl, by simp [ha], s', i2, o2.setAt 0 rfl _⟩
  · rintro acc h' ⟨ha, s, hi, ho⟩ hc
    rw [Nat.zero_add] at ha hi
    exact hn acc s _ h' ha hi ho
end
end Mi

/-! Exceptions: raised with a field or none, caught, kept in a name, asked for their class and field. -/
namespace Mi
open PySem L2 PySem.Spec PyProof.Rows
section
variable {X : Cx} {pins : List (Addr × Obj)} {σ : L2.St} {H : Hp} {s : Shared}
/-- the object of an exception gets tracked -/
theorem inv_track {p C : Addr} {d : Option Addr} {ob : Obj} {vs : Array Value} (I : Inv X pins σ H s) (hp : s.heap.get? p = some ob) (hz : Zc (.ref C) d ob) (hd : ob.data = .fields vs) (np : H p = none)
    (n0 : X.s_0.heap.get? p = none) (nL : p ≠ X.env.locals) (nC : ∀ x c, X.env.cells.lookup x = some c → c ≠ p) (nP : ∀ q ∈ X.pn ++ pins, q.1 ≠ p) : Inv X pins σ (upd H p (XOk C d p)) s := by
  have ne0 : ∀ b o, X.s_0.heap.get? b = some o → b ≠ p := fun b o e z => by rw [z, n0] at e; cases e
  refine ⟨I.ok, I.os, I.bare, ⟨I.base.keep, I.base.slot, ?_, I.base.there, ?_, ?_, ?_⟩, I.loc, I.cell, ?_, ?_, ?_, ?_, I.len⟩
  · intro b o e n x
    rw [upd_ne (ne0 b o e)]
    exact I.base.free b o e n x
  · intro b xs e
    have q := I.base.tups b xs e
    rw [upd_ne (ne_of_none q np)]
    exact q
  · intro b o u e
    have q := I.base.frzs b o u e
    rw [upd_ne (ne_of_none q np)]
    exact q
  · intro b ps e
    obtain ⟨m, q⟩ := I.base.tbls b ps e
    exact ⟨m, by rw [upd_ne (ne_of_none q np)]; exact q⟩
  · rw [upd_ne (Ne.symm nL)]
    exact I.free
  · intro x c e
    rw [upd_ne (nC x c e)]
    exact I.freeC x c e
  · intro q hq
    obtain ⟨h1, h2, h3⟩ := I.pin q hq
    exact ⟨h1, by rw [upd_ne (nP q hq)]; exact h2, h3⟩
  · intro b u e
    by_cases hb : b = p
    · subst hb
      rw [upd_same] at e
      cases e
      exact ⟨⟨ob, vs, hp, hz, hd⟩, ⟨ob, hp⟩, fun h1 h2 ⟨o, v, e1, e2⟩ k => ⟨o, v, k o e1, e2⟩⟩
    · rw [upd_ne hb] at e
      refine (I.hok b u e).stay (fun _ _ _ q => q) ?_ ?_
      · intro c q
        rw [upd_ne (ne_of_none q np)]
        exact q
      · intro c xs q
        rw [upd_ne (ne_of_none q np)]
        exact q
end
/-- what a clause wishes that keeps the exception: slot i is the clause's name, slot j the one that keeps it -/
def wKeep (K : PySem.W.Frag) (c : Value) (i j : Nat) (Wo : WX) (D : Ends) : WX := fun cls d σ H =>
  ∃ b C, cls = .ref C ∧ PySem.W.exmOne K cls c = some b ∧ (b = true → ∀ p, H p = none → D.nx (((σ.set i (some (.ref p))).set j (some (.ref p))).set i none) (upd H p (XOk C d p))) ∧ (b = false → Wo cls d σ H)
section
variable {X : Cx} {x n r : Str} {c : Value} {i j : Nat} {body : List Stmt} {qn q0 q1 q2 q3 q4 : Pos} {tb : WX → TS} {Wo : WX}
theorem ps_try_keep (hst : X.stack = X.env :: X.outer) (hfm : X.env.frame = some X.env.locals) (hND : X.N.Nodup) (hi : X.N[i]? = some n) (hj : X.N[j]? = some r) (hij : i ≠ j) (hln : X.env.kindOf n = some .local) (hlr : X.env.kindOf r = some .local) (hcn : Names X x c) (tk : Takes X Wo) (hex : X.ex = [])
    (hdn : (n == ("__debug__" : Str)) = false) (hcd : (n == ("__classdict__" : Str)) = false)
    (hsw : ∀ (p : Addr) (pn : List (Addr × Obj)), swapsWith (.Name n q2) (some (.Name r q1)) q3.line X.env = pure false)
    (hbd : ∀ (W : WX) (pn : List (Addr × Obj)) (xe : Value → Shared → Prop), Takes (X.tr pn xe) W → PassesOwn (model X.prog X.w) X.A X.env xe → PSs (X.tr pn xe) body (tb W)) :
    PS X (.Try body [.ExceptHandler (some (.Name x qn)) (some n) [.Assign [.Name r q1] (.Name n q2) q3] q0] [] [] q4) (fun D σ H => tb (wKeep X.K c i j Wo D) D σ H) := by
  refine ⟨fun pins s σ H D I q => ?_⟩
  have kk := I.ok
  have hfr : X.A.frames = some (X.env :: X.outer) := by rw [kk.frames, hst]
  refine wpAny_Try_except ?_
  let cl : List ExceptHandler := [.ExceptHandler (some (.Name x qn)) (some n) [.Assign [.Name r q1] (.Name n q2) q3] q0]
  refine wpAny_mono ((hbd (wKeep X.K c i j Wo D) (X.pn ++ pins) (fun ev t1 => wpAny (model X.prog X.w) X.A (noteFrame ev X.env) (fun _ t2 =>
    wpAny (model X.prog X.w) X.A (setFlight ev none) (fun _ t3 => wpAny (model X.prog X.w) X.A (handleBy ev X.env cl) (L2.SP X pins D) X.xe t3) X.xe t2) X.xe t1)
    (fun uu s' xx => ?_) PassesOwn.looking).run [] s σ H D (I.toTry _) q) (fun fl s1 hsp => ?_) (fun _ _ he => he)
  · obtain ⟨p, B, sI, pins', σ', H', cls, d, rfl, J', nb, up, sky, np, os, ag, b, C, rfl, hb1, hyes, hno⟩ := xx
    have J : Inv X pins σ' H' sI := J'.ofTry kk
    have sky2 : Sky B (X.env :: X.outer) p (Zc (.ref C) d) X.env.locals s'.heap := by rw [← hst]; exact sky
    show wpAny (model X.prog X.w) X.A (noteFrame (.ref p) X.env) _ _ _
    refine Sky.land Zc.steady hfr hfm sky2 fun h3 f3 up3 => ?_
    have J3 : Inv X pins σ' H' { s' with heap := h3 } := J.landed nb f3.1 (up.trans up3) os ag
    obtain ⟨o3, v3, ho3, hz3, hd3⟩ := f3.there
    have off : p ∉ frs (X.env :: X.outer) := fun hm => by
      obtain ⟨_, o', e', hnf⟩ := f3.2.2.1.mem hm
      rw [ho3] at e'
      cases e'
      exact hnf _ hd3
    have nL : p ≠ X.env.locals := fun z => off (List.mem_filterMap.mpr ⟨X.env, List.mem_cons_self, by rw [hfm, z]⟩)
    have nF : p ∉ X.fs := fun hm => by
      obtain ⟨e, he, w⟩ := List.mem_filterMap.mp hm
      exact off (List.mem_filterMap.mpr ⟨e, List.mem_cons_of_mem _ he, w⟩)
    have nI : ∀ o, sI.heap.get? p = some o → False := fun o e => by
      have z := nb p o e (by rw [hst]; exact off)
      rw [f3.2.1] at z
      cases z
    have n0 : X.s_0.heap.get? p = none := by
      cases e : X.s_0.heap.get? p with
      | none => rfl
      | some o =>
        obtain ⟨o', z⟩ := J.base.there p o e (by rw [hex]; exact fun z => nomatch z)
        exact (nI o' z).elim
    have S3 := J3.suite ho3 hd3 np nL nF
    refine wpAny_handleBy_cons (codeAny_handlers_test ?_) (by intro q; cases q)
    have ty3 : PySem.W.Looks (model X.prog X.w) h3 (typeOf (.ref p)) (.ref C) := fun _ _ _ _ k q => wpAny_typeOf_ref (k _ _ ho3) (by rw [hz3.1]; exact q)
    have mt3 := PySem.W.exm_one (M := model X.prog X.w) (J3.kIn) ty3 hb1
    have named : ∀ {Q : Value → Shared → Prop} {E : Value → Shared → Prop}, Q c { s' with heap := h3 } →
        wpAny (model X.prog X.w) (X.A.mark (some (.ref p))) (eval (.Name x qn) X.env) Q E { s' with heap := h3 } := by
      intro Q E w
      obtain ⟨g1, g2, g3⟩ := hcn
      rcases g3 with g3 | ⟨g3, g4, g5⟩
      · exact ld_glob (X := X.suite p ((p, o3) :: (X.pn ++ pins))) S3 g1 g3 w g2
      · exact ld_blt (X := X.suite p ((p, o3) :: (X.pn ++ pins))) S3 g1 g3 g4 w g5 g2
    refine named (mt3.here ?_)
    cases b with
    | true =>
      refine codeAny_handlers_suite_as (HandSPX.lands_againZ f3 fun h4 f4 up4 => ?_)
      have J4 : Inv X pins σ' H' { s' with heap := h4 } := J.landed nb f4.1 ((up.trans up3).trans up4) os ag
      obtain ⟨o4, v4, ho4, hz4, hd4⟩ := f4.there
      have S4 := J4.suite ho4 hd4 np nL nF
      refine store_ok (X := X.suite p ((p, o4) :: (X.pn ++ pins))) (v := .ref p) S4 hND hi (.inl hln) rfl (fun s5 S5 => ?_) (.inr hln)
      have su : PSs (X.suite p ((p, o4) :: (X.pn ++ pins))) [.Assign [.Name r q1] (.Name n q2) q3] (tAsg (tVar i) (gName j)) :=
        pss_one (ps_set hND hj (.inl hlr) (pe_var hi (.inl hln) hdn hcd) (hsw p (X.pn ++ pins)) (.inr hlr))
      have lt : i < σ'.length := by rw [J.len]; exact (List.getElem?_eq_some_iff.mp hi).1
      refine wpAny_mono (su.run [] s5 _ H' { nx := fun σ6 H6 => σ6 = (σ'.set i (some (.ref p))).set j (some (.ref p)) ∧ H6 = H', rt := fun _ _ => False, bk := fun _ _ => False, ct := fun _ _ => False } S5 ?_) (fun fl s6 hs6 => ?_) (fun _ _ z => False.elim z)
      · exact ⟨.ref p, by rw [List.getElem?_set_self lt], rfl, rfl⟩
      · cases fl with
        | next =>
          obtain ⟨σ6, H6, S6, rfl, rfl⟩ := hs6
          obtain ⟨hg6, _⟩ := S6.pin (p, o4) (List.mem_append_left _ List.mem_cons_self)
          have K6 := inv_track (S6.unsuite kk) hg6 hz4 hd4 np n0 nL
            (fun y c' e z => by
              obtain ⟨v, o, e1, _⟩ := J.cell y c' e
              rw [z] at e1
              exact nI o e1)
            (fun q' hq z => by
              have e1 := (J.pin q' hq).1
              rw [z] at e1
              exact nI _ e1)
          exact gone_ok K6 hND hi hln fun s7 J7 => ⟨_, _, J7, hyes rfl p np⟩
        | brk => obtain ⟨_, _, _, z⟩ := hs6; exact z.elim
        | cont => obtain ⟨_, _, _, z⟩ := hs6; exact z.elim
        | ret u => obtain ⟨_, _, _, _, _, z⟩ := hs6; exact z.elim
    | false =>
      show wpAny _ X.A (handleBy (.ref p) X.env []) _ _ _
      refine wpAny_handleBy_nil ?_
      obtain ⟨k1, k2, k3, oe, vs, T, oT, ts', he, hz, hd, h1, hr⟩ := id f3
      unfold PySem.passOn
      refine wpAny_bind (wpAny_field he hd h1 ?_)
      rw [if_neg (show ¬ ((Value.ref T == Value.none) = true) by simp)]
      have last : wpAny (model X.prog X.w) X.A (setFlight (.ref p) X.env.frame) (fun _ t4 => wpAny (model X.prog X.w) X.A (throw (.ref p) : Sem Flow) (L2.SP X pins D) X.xe t4) X.xe { s' with heap := h3 } := by
        rw [hfm]
        refine HandSPX.setFlight_upZ f3 fun h4 g4 up4 => wpAny_throw (tk _ _ ?_)
        exact ⟨p, B, sI, pins, σ', H', .ref C, d, rfl, J, nb, (up.trans up3).trans up4, .inr (.inr (by rw [hst]; exact g4)), np, os, ag, hno rfl⟩
      first
        | exact wpAny_bind (wpAny_pure (wpAny_bind last))
        | exact wpAny_bind last
  · cases fl with
    | next =>
      obtain ⟨σ', H', J', w⟩ := hsp
      exact wpAny_execs_nil ⟨σ', H', J'.ofTry kk, w⟩
    | brk =>
      obtain ⟨σ', H', J', w⟩ := hsp
      exact ⟨σ', H', J'.ofTry kk, w⟩
    | cont =>
      obtain ⟨σ', H', J', w⟩ := hsp
      exact ⟨σ', H', J'.ofTry kk, w⟩
    | ret u =>
      obtain ⟨v, σ', H', J', r', w⟩ := hsp
      exact ⟨v, σ', H', J'.ofTry kk, r', w⟩
end

/-! ### what a class of exceptions must say -/
structure ClsX (K : PySem.W.Frag) (C : Addr) : Prop where
  cl : (PySem.W.clsIn K C).isSome = true
  ga : PySem.W.findIn K (.ref C) "__getattribute__" = some (some (.builtin "BaseException.__getattribute__"))
  gg : PySem.W.findIn K (.ref C) "__getattr__" = some none
  sb : PySem.W.subIn K (.ref C) (.type "BaseException") = some true
  ca : PySem.W.findIn K (.ref C) "__class__" = some (some (.builtin "object.__class__"))
  cg : PySem.W.specialIn K (.builtin "object.__class__") "__get__" = some (some (.builtin "getset_descriptor.__get__"))
  ct : PySem.W.takesIn K (.builtin "object.__class__") = some true
  mo : PySem.W.mroIn K C (.type "object") = some true
  hd : PySem.W.hasDictIn K C = true
  ty : PySem.W.typeIn K (.ref C) = some (.type "type")
  kp : PySem.W.keepIn K (.ref C) = true
def clsXB (K : PySem.W.Frag) (C : Addr) : Bool :=
  (PySem.W.clsIn K C).isSome && (decide (PySem.W.findIn K (.ref C) "__getattribute__" = some (some (.builtin "BaseException.__getattribute__"))) && (decide (PySem.W.findIn K (.ref C) "__getattr__" = some none) &&
  (decide (PySem.W.subIn K (.ref C) (.type "BaseException") = some true) && (decide (PySem.W.findIn K (.ref C) "__class__" = some (some (.builtin "object.__class__"))) &&
  (decide (PySem.W.specialIn K (.builtin "object.__class__") "__get__" = some (some (.builtin "getset_descriptor.__get__"))) && (decide (PySem.W.takesIn K (.builtin "object.__class__") = some true) &&
  (decide (PySem.W.mroIn K C (.type "object") = some true) && (PySem.W.hasDictIn K C && (decide (PySem.W.typeIn K (.ref C) = some (.type "type")) && PySem.W.keepIn K (.ref C))))))))))
theorem clsXB_ok {K : PySem.W.Frag} {C : Addr} (h : clsXB K C = true) : ClsX K C := by
  unfold clsXB at h
  simp only [Bool.and_eq_true, decide_eq_true_eq] at h
  obtain ⟨h1, h2, h3, h4, h5, h6, h7, h8, h9, h10, h11⟩ := h
  exact ⟨h1, h2, h3, h4, h5, h6, h7, h8, h9, h10, h11⟩
/-- the classes in a table, each with a truth -/
def TabX (K : PySem.W.Frag) (l : List (Str × Bool)) (f : Addr → Bool → Prop) : Prop := ∀ c b C, l.lookup c = some b → cmOf K c = some C → ClsX K C ∧ f C b
def tabXB (K : PySem.W.Frag) (l : List (Str × Bool)) (f : Addr → Bool → Bool) : Bool := l.all fun p => match cmOf K p.1 with
  | some C => clsXB K C && f C p.2
  | none => false
theorem lookup_mem {κ α : Type} [BEq κ] [LawfulBEq κ] : ∀ {l : List (κ × α)} {c : κ} {b : α}, l.lookup c = some b → (c, b) ∈ l
  | [], _, _, h => by simp at h
  | (x, y) :: l, c, b, h => by
    rw [List.lookup_cons] at h
    split at h
    · rename_i q
      cases h
      rw [beq_iff_eq.mp q]
      exact List.mem_cons_self
    · exact List.mem_cons_of_mem _ (lookup_mem h)
theorem tabXB_ok {K : PySem.W.Frag} {l : List (Str × Bool)} {f : Addr → Bool → Bool} {g : Addr → Bool → Prop} (hfg : ∀ C b, f C b = true → g C b) (h : tabXB K l f = true) : TabX K l g := fun c b C e1 e2 => by
  have q := List.all_eq_true.mp h _ (lookup_mem e1)
  dsimp only at q
  rw [e2] at q
  obtain ⟨q1, q2⟩ := Bool.and_eq_true_iff.mp q
  exact ⟨clsXB_ok q1, hfg C b q2⟩

/-! ### caught and kept -/
def xoOf (c : Str) : List (Str × D) → Option D
  | [] => some (.xo c (Str.ofString "") .non)
  | [(f, v)] => some (.xo c f v)
  | _ => none
def mTryK (tab : List (Str × Bool)) (i j : Nat) (b : MS) : MS := fun ρ h => match b ρ h with
  | .exc c fs ρ1 h1 => match tab.lookup c with
    | some true => match xoOf c fs with
      | some d => .nx (((ρ1.set i none).set j (some d)).set i none) h1
      | none => .bad
    | some false => .exc c fs ρ1 h1
    | none => .bad
  | o => o
section
variable {K : PySem.W.Frag} {H : Hp} {μ : List Addr} {h : MH}
theorem xr_xo {cls : Value} {d : Option Addr} {c : Str} {fs : List (Str × D)} {C p : Addr} {dv : D} (x : XR (gOf w K) H μ (.ref C) d c fs) (e : xoOf c fs = some dv) (np : H p = none) : VR (gOf w K) (upd H p (XOk C d p)) μ (.ref p) dv := by
  obtain ⟨C', e1, e2, e3⟩ := x
  cases e1
  have m : Mon (gOf w K) H (upd H p (XOk C d p)) μ μ := (Saf.fresh np).mon
  rcases e3 with ⟨rfl, rfl⟩ | ⟨dd, fv, hne, rfl, h1, h2⟩
  · cases e
    exact .xo (v := .non) upd_same e2 (.inl ⟨rfl, rfl⟩) .non
  · cases h2 with
    | nil => exact absurd rfl hne
    | cons a b =>
      cases b with
      | nil =>
        cases e
        refine .xo upd_same e2 (.inr ⟨dd, _, rfl, by rw [upd_ne (ne_of_none h1 np)]; exact h1, ?_⟩) (a.mono m)
        simp [List.lookup]
      | cons _ _ => cases e
end

section
variable {X : Cx} {x n r : Str} {c : Value} {i j : Nat} {body : List Stmt} {qn q0 q1 q2 q3 q4 : Pos} {mb : MS} {W : WX} {tab : List (Str × Bool)}
theorem sx_tryK (tk : Takes X W) (hcn : Names X x c) (ht : TabX X.K tab fun C b => PySem.W.exmOne X.K (.ref C) c = some b)
    (hbd : ∀ (W : WX) (pn : List (Addr × Obj)) (xe : Value → Shared → Prop), Takes (X.tr pn xe) W → PSs (X.tr pn xe) body (tS (gOf X.w X.K) W mb)) (hND : X.N.Nodup)
    (hi : X.N[i]? = some n := by rfl) (hj : X.N[j]? = some r := by rfl) (hij : i ≠ j := by decide) (hln : X.env.kindOf n = some .local := by rfl) (hlr : X.env.kindOf r = some .local := by rfl)
    (hst : X.stack = X.env :: X.outer := by rfl) (hfm : X.env.frame = some X.env.locals := by rfl) (hex : X.ex = [] := by rfl)
    (hdn : (n == ("__debug__" : Str)) = false := by decide) (hcd : (n == ("__classdict__" : Str)) = false := by decide)
    (hsw : swapsWith (.Name n q2) (some (.Name r q1)) q3.line X.env = pure false := by rfl) :
    PS X (.Try body [.ExceptHandler (some (.Name x qn)) (some n) [.Assign [.Name r q1] (.Name n q2) q3] q0] [] [] q4) (tS (gOf X.w X.K) W (mTryK tab i j mb)) :=
  ps_mono (ps_try_keep hst hfm hND hi hj hij hln hlr hcn tk hex hdn hcd (fun _ _ => hsw) (fun W pn xe t _ => hbd W pn xe t)) fun E σ H ⟨ρ, h, μ, sr, hr, bk⟩ => by
    refine ⟨ρ, h, μ, sr, hr, ?_⟩
    simp only [mTryK] at bk
    cases e : mb ρ h with
    | exc cn fs ρ1 h1 =>
      rw [e] at bk
      dsimp only at bk
      intro cls d σ' H' μ' m sr' hr' xr
      obtain ⟨C, rfl, hC, xr'⟩ := id xr
      cases l : tab.lookup cn with
      | none => rw [l] at bk; exact bk.elim
      | some b =>
        rw [l] at bk
        obtain ⟨_, q⟩ := ht cn b C l hC
        refine ⟨b, C, rfl, q, fun hb p np => ?_, fun hb => ?_⟩
        · subst hb
          dsimp only at bk
          cases z : xoOf cn fs with
          | none => rw [z] at bk; exact bk.elim
          | some dv =>
            rw [z] at bk
            have m2 : Mon (gOf X.w X.K) H' (upd H' p (XOk C d p)) μ' μ' := (Saf.fresh np).mon
            refine bk _ _ μ' (m.trans m2) ?_ (hr'.laid np)
            exact (((sr'.mono m2).unset i _).set j (xr_xo (cls := .ref C) xr z np)).unset i _
        · subst hb
          exact bk _ d σ' H' μ' m sr' hr' xr
    | nx _ _ => rw [e] at bk; exact bk
    | rt _ _ => rw [e] at bk; exact bk
    | bk _ _ => rw [e] at bk; exact bk
    | ct _ _ => rw [e] at bk; exact bk
    | bad => rw [e] at bk; exact bk.elim
end

/-! ### the field of a kept exception -/
def tXk (K : PySem.W.Frag) (f : Str) (te : TE) : TE := fun σ H Q => te σ H fun x H1 => ∃ (p C dd : Addr) (fv : List (Str × V)) (v : V), x = .ref p ∧ H1 p = some (XOk C (some dd) p) ∧ H1 dd = some (.xd fv) ∧ fv.lookup f = some v ∧ ClsX K C ∧ PySem.W.findIn K (.ref C) f = some none ∧ Q v H1
theorem xok_at {P : Program} {w : World} {H : Hp} {hp : Heap} {p C : Addr} {d : Option Addr} (hok : HOk P w H hp) (e : H p = some (XOk C d p)) : ∃ (ob : Obj) (vs : Array Value), hp.get? p = some ob ∧ Zc (.ref C) d ob ∧ ob.data = .fields vs := (hok p _ e).1
theorem pe_xk {X : Cx} {e : Expr} {te : TE} {pos : Pos} {f : Str} (he : PE X e te) (hab : attributeBase e f X.env (eval e X.env) = eval e X.env := by rfl) : PE X (.Attribute e f pos) (tXk X.K f te) := by
  refine ⟨fun pins s σ H Q I q => attr_of hab (thn (he.run pins s σ H _ I q) fun u s1 hh => ?_)⟩
  obtain ⟨x, H1, I1, rx, p, C, dd, fv, v, rfl, e1, e2, e3, T, hno, q1⟩ := hh
  cases (show u = Value.ref p from rx)
  obtain ⟨ob, vs, ho, hz, hd⟩ := xok_at I1.hok e1
  obtain ⟨mA, hns, hrel⟩ := (show ObjOk X.prog X.w H1 s1.heap dd (.xd fv) from I1.hok dd _ e2)
  obtain ⟨od, hod, hlk⟩ := lookIn_ns hns
  obtain ⟨u, hu, ru⟩ := RelO.some_of (v := v) (o := mA f) (by rw [← e3]; exact hrel f)
  have J : PySem.W.InstAt s1.heap p ob C (some od) := ⟨ho, hz.1, by unfold PySem.W.notCls; rw [hd] <;> rfl, by rw [hz.2]; exact hod⟩
  exact HandSPX.exc_get I1.kIn J T.ga T.gg T.sb (PySem.W.findObj_own T.hd hno rfl (by rw [hlk, hu])) (handed_of ru) ⟨v, H1, I1.tok _, ru, q1⟩
def mXf (cs : List Str) (f : Str) (a : ME) : ME := fun ρ h => (a ρ h).bind fun x h1 => match x with
  | .xo c f' v => if c ∈ cs ∧ f' = f ∧ f ≠ Str.ofString "" then .ok v h1 else .bad
  | _ => .bad
theorem se_xf {X : Cx} {W : WX} {e : Expr} {me : ME} {pos : Pos} {f : Str} {cs : List Str} (he : PE X e (tE (gOf X.w X.K) W me)) (ht : ∀ c ∈ cs, ∀ C, cmOf X.K c = some C → ClsX X.K C ∧ PySem.W.findIn X.K (.ref C) f = some none)
    (hab : attributeBase e f X.env (eval e X.env) = eval e X.env := by rfl) : PE X (.Attribute e f pos) (tE (gOf X.w X.K) W (mXf cs f me)) :=
  pe_mono (pe_xk he hab) fun σ H Q ⟨ρ, h, μ, sr, hr, bk⟩ => step (rel := VR) (rel' := VR) (ma := me) (Q' := Q) sr hr bk fun v d h1 H1 μ1 m1 sr1 hr1 vx bk1 => by
    cases vx with
    | @xo p C d c f' v dv h1 h2 h3 h4 =>
      dsimp only at bk1
      split at bk1
      · rename_i q
        obtain ⟨q1, rfl, q3⟩ := q
        obtain ⟨t1, t2⟩ := ht c q1 C h2
        rcases h3 with ⟨z, _⟩ | ⟨dd, fv, rfl, e2, e3⟩
        · exact absurd z q3
        · exact ⟨p, C, dd, fv, v, rfl, h1, e2, e3, t1, t2, bk1.val hr1 h4⟩
      · exact bk1.elim
    | _ => exact bk1.elim

/-! ### isinstance of a kept exception -/
def XAt (H : Hp) (p C : Addr) : Prop := ∃ d, H p = some (XOk C d p) ∧ (d = none ∨ ∃ dd fv, d = some dd ∧ H dd = some (.xd fv))
theorem xat_kit {X : Cx} {pins : List (Addr × Obj)} {σ : L2.St} {H : Hp} {s : Shared} {p C : Addr} (I : Inv X pins σ H s) (T : ClsX X.K C) (h : XAt H p C) : ∃ Pr : Heap → Prop, PySem.W.KitX X.K (.ref p) (.ref C) Pr ∧ Pr s.heap := by
  obtain ⟨d, e1, e2⟩ := h
  obtain ⟨ob, vs, ho, hz, hd⟩ := xok_at I.hok e1
  have nc : PySem.W.notCls ob = true := by unfold PySem.W.notCls; rw [hd] <;> rfl
  rcases e2 with rfl | ⟨dd, fv, rfl, e3⟩
  · exact ⟨_, PySem.W.kitx_exc (ox := ob) (od := none) T.cl T.ga T.gg T.sb T.ca T.cg T.ct T.mo, ⟨ho, hz.1, nc, by rw [hz.2]; trivial⟩⟩
  · obtain ⟨mA, hns, _⟩ := (show ObjOk X.prog X.w H s.heap dd (.xd fv) from I.hok dd _ e3)
    obtain ⟨od, hod, _⟩ := lookIn_ns hns
    exact ⟨_, PySem.W.kitx_exc (ox := ob) (od := some od) T.cl T.ga T.gg T.sb T.ca T.cg T.ct T.mo, ⟨ho, hz.1, nc, by rw [hz.2]; exact hod⟩⟩
def Det (c : V) (u : Value) : Prop := ∀ w, RelV c w → w = u
theorem dets : ∀ {cs : List V} {us ws : List Value}, Paired Det cs us → Vals cs ws → ws = us
  | _, _, _, .nil, .nil => rfl
  | _, _, _, .cons a b, .cons r t => by rw [a _ r, dets b t]
def rIsXk (K : PySem.W.Frag) : List V → Hp → VK → Prop := fun xs H Q => ∃ (p C : Addr) (c : V) (cv : Value) (b : Bool), xs = [.ref p, c] ∧ XAt H p C ∧ Det c cv ∧ ClsX K C ∧ PySem.W.kitOne K (.ref C) cv = some b ∧ Q (.bl b) H
theorem call_isXk {X : Cx} : CallR X (.builtin "isinstance") (rIsXk X.K) := by
  intro pins s σ H xs us Q I rr hh
  obtain ⟨p, C, c, cv, b, rfl, hx, hc, T, e, q⟩ := hh
  obtain ⟨u1, u2, rfl, r1, r2⟩ := vals2 rr
  cases (show u1 = Value.ref p from r1)
  cases hc _ r2
  obtain ⟨Pr, Z, z⟩ := xat_kit I T hx
  exact PySem.W.kia_one Z I.kIn z e (fun z => nomatch z) fun tk => ⟨.bl b, H, I.tok tk, rfl, q⟩
def rIsXt (K : PySem.W.Frag) : List V → Hp → VK → Prop := fun xs H Q => ∃ (p C tp : Addr) (o : Obj) (cs : List V) (cv : List Value) (b : Bool), xs = [.ref p, .ref tp] ∧ XAt H p C ∧ H tp = some (.frz o (.tup cs)) ∧ Paired Det cs cv ∧ ClsX K C ∧ PySem.W.kitAny K (.ref C) cv = some b ∧ Q (.bl b) H
theorem call_isXt {X : Cx} : CallR X (.builtin "isinstance") (rIsXt X.K) := by
  intro pins s σ H xs us Q I rr hh
  obtain ⟨p, C, tp, o, cs, cv, b, rfl, hx, hT, hc, T, e, q⟩ := hh
  obtain ⟨u1, u2, rfl, r1, r2⟩ := vals2 rr
  cases (show u1 = Value.ref p from r1)
  cases (show u2 = Value.ref tp from r2)
  obtain ⟨Pr, Z, z⟩ := xat_kit I T hx
  obtain ⟨_, _, its, rv, ob, h1, h2, n, h3⟩ := (show ObjOk X.prog X.w H s.heap tp (.frz o (.tup cs)) from I.hok tp _ hT)
  cases dets hc rv
  obtain ⟨oc, od, dt, sl⟩ := ob
  simp only at h2 h3
  subst h2 h3
  exact PySem.W.kia_tup Z I.kIn z h1 e (fun z => nomatch z) fun tk => ⟨.bl b, H, I.tok tk, rfl, q⟩
def mIsX (tab : List (Str × Bool)) (a : ME) : ME := fun ρ h => (a ρ h).bind fun x h1 => match x with
  | .xo c _ _ => match tab.lookup c with
    | some b => .ok (.bl b) h1
    | none => .bad
  | _ => .bad
theorem xat_of {g : G} {H : Hp} {μ : List Addr} {p C : Addr} {d : Option Addr} {f : Str} {v : V} (h1 : H p = some (XOk C d p)) (h3 : (f = Str.ofString "" ∧ d = none) ∨ ∃ dd fv, d = some dd ∧ H dd = some (.xd fv) ∧ fv.lookup f = some v) : XAt H p C :=
  ⟨d, h1, by
    rcases h3 with ⟨_, h⟩ | ⟨dd, fv, h, h', _⟩
    · exact .inl h
    · exact .inr ⟨dd, fv, h, h'⟩⟩
section
variable {X : Cx} {W : WX} {a : Expr} {ma : ME} {p p2 p3 pos : Pos} {y : Str} {tab : List (Str × Bool)}
theorem se_isX {cv : Value} {v : V} (ha : PE X a (tE (gOf X.w X.K) W ma)) (hm : X.mg "isinstance" = none) (hy : PE X (.Name y p2) (tC v)) (hd : Det v cv) (ht : TabX X.K tab fun C b => PySem.W.kitOne X.K (.ref C) cv = some b) (hg : Gl X "isinstance" := by rfl)
    (s1 : starEach [a, .Name y p2] X.env = (false, eval a X.env) :: starEach [.Name y p2] X.env := by rfl) (s2 : starEach [.Name y p2] X.env = (false, eval (.Name y p2) X.env) :: starEach [] X.env := by rfl)
    (hpl : (backTo pos (starEach [.Name y p2] X.env)).any (·.1) = false := by rfl) : PE X (.Call (.Name "isinstance" p) [a, .Name y p2] [] pos) (tE (gOf X.w X.K) W (mIsX tab ma)) :=
  pe_mono (pe_callB call_isXk hg hm (by decide +kernel) (pa_cons ha (pa_cons hy pa_nil s2) s1) (by decide) (by decide) s1 hpl) fun σ H Q ⟨ρ, h, μ, sr, hr, bk⟩ =>
    step (rel := VR) (rel' := VR) (ma := ma) (Q' := Q) sr hr bk fun x d h1 H1 μ1 m1 sr1 hr1 vx bk1 => by
      cases vx with
      | @xo p C d c f v dv e1 e2 e3 e4 =>
        dsimp only at bk1
        cases l : tab.lookup c with
        | none => rw [l] at bk1; exact bk1.elim
        | some b =>
          rw [l] at bk1
          obtain ⟨t1, t2⟩ := ht c b C l e2
          exact ⟨p, C, _, cv, b, rfl, xat_of (g := gOf X.w X.K) (μ := μ1) e1 e3, hd, t1, t2, bk1.val hr1 (.bl b)⟩
      | _ => exact bk1.elim
/-- names of classes -/
inductive NmX (X : Cx) : List Expr → List V → List Value → Prop
  | nil : NmX X [] [] []
  | cons {y : Str} {p : Pos} {D : Addr} {es : List Expr} {vs : List V} {us : List Value} : PE X (.Name y p) (tC (.ref D)) → starEach (.Name y p :: es) X.env = (false, eval (.Name y p) X.env) :: starEach es X.env → NmX X es vs us → NmX X (.Name y p :: es) (.ref D :: vs) (.ref D :: us)
theorem NmX.pa : ∀ {es : List Expr} {vs : List V} {us : List Value}, NmX X es vs us → PA X es (fun σ H Q => Q vs H) ∧ Paired Det vs us ∧ vs.length = es.length
  | _, _, _, .nil => ⟨pa_mono pa_nil fun _ _ _ q => q, .nil, rfl⟩
  | _, _, _, .cons a b c => by
    obtain ⟨h1, h2, h3⟩ := c.pa
    exact ⟨pa_mono (pa_cons a h1 b) fun _ _ _ q => q, .cons (fun w r => r) h2, by simp [h3]⟩
theorem se_isXT {es : List Expr} {vs : List V} {cv : List Value} {kx : Nat} (ha : PE X a (tE (gOf X.w X.K) W ma)) (hm : X.mg "isinstance" = none) (hy : NmX X es vs cv) (hl : es.length ≤ 100) (ht : TabX X.K tab fun C b => PySem.W.kitAny X.K (.ref C) cv = some b) (hg : Gl X "isinstance" := by rfl)
    (s1 : starEach [a, .Tuple es kx p2] X.env = (false, eval a X.env) :: starEach [.Tuple es kx p2] X.env := by rfl) (s2 : starEach [.Tuple es kx p2] X.env = (false, eval (.Tuple es kx p2) X.env) :: starEach [] X.env := by rfl)
    (hpl : (backTo pos (starEach [.Tuple es kx p2] X.env)).any (·.1) = false := by rfl) : PE X (.Call (.Name "isinstance" p) [a, .Tuple es kx p2] [] pos) (tE (gOf X.w X.K) W (mIsX tab ma)) := by
  obtain ⟨n1, n2, n3⟩ := hy.pa
  refine pe_mono (pe_callB call_isXt hg hm (by decide +kernel) (pa_cons ha (pa_cons (pe_tupF n1) pa_nil s2) s1) (by decide) (by decide) s1 hpl) fun σ H Q ⟨ρ, h, μ, sr, hr, bk⟩ => ?_
  refine step (rel := VR) (rel' := VR) (ma := ma) (Q' := Q) sr hr bk fun x d h1 H1 μ1 m1 sr1 hr1 vx bk1 => ?_
  cases vx with
  | @xo p C d c f v dv e1 e2 e3 e4 =>
    dsimp only at bk1
    cases l : tab.lookup c with
    | none => rw [l] at bk1; exact bk1.elim
    | some b =>
      rw [l] at bk1
      obtain ⟨t1, t2⟩ := ht c b C l e2
      refine ⟨by rw [n3]; exact Nat.le_trans hl (by rw [sizeLine_eq]; decide), fun tp ob np od => ?_⟩
      have m2 : Mon (gOf X.w X.K) H1 (upd H1 tp (.frz ob (.tup vs))) μ1 μ1 := (Saf.fresh np).mon
      have xa := xat_of (g := gOf X.w X.K) (μ := μ1) e1 e3
      refine ⟨p, C, tp, ob, vs, cv, b, rfl, ?_, upd_same, n2, t1, t2, (Bk.mono m2 bk1).val (hr1.laid np) (.bl b)⟩
      obtain ⟨d', x1, x2⟩ := xa
      refine ⟨d', by rw [upd_ne (ne_of_none x1 np)]; exact x1, ?_⟩
      rcases x2 with x2 | ⟨dd, fv, x2, x3⟩
      · exact .inl x2
      · exact .inr ⟨dd, fv, x2, by rw [upd_ne (ne_of_none x3 np)]; exact x3⟩
  | _ => exact bk1.elim
end
end Mi

/-! Raising: a class with one field, a class without. -/
namespace Mi
open PySem L2 PySem.Spec PyProof.Rows
def spInit (K : PySem.W.Frag) (f : Str) : Sp := fun vs H Q _ => ∃ (p C : Addr) (y : V), vs = [.ref p, y] ∧ OexC K C ∧ PySem.W.findIn K (.ref C) f = some none ∧ H p = some (exo p C none) ∧
  ∀ dx, H dx = none → dx ≠ p → Q .non (upd (upd H dx (exd dx [(f, y)])) p (exo p C (some dx)))
section
variable {P : Program} {w : World} {K : PySem.W.Frag} {mg : Str → Option Value} {base : Heap}
theorem xi_fn {x qual f : Str} {st : Stmt} {fI : Addr} {fd : FuncData} (F : Fun K x qual st fI fd) (S : FnScope ["self", f] ["self", f] (defScope st))
    (hb : ∀ (cdv : Value) (A : Around) (outer : List Env) (s : Shared) (H : Hp) (E : XK), PSs (cxOf (L2.CX P w) P w K mg base ["self", f] qual (defScope st) fI cdv A outer s H E) (defBody st) (tOst K f (tVar 0) (tVar 1))) :
    FnOk P w K mg base (L2.CX P w) 1 fI fd ["self", f] (spInit K f) :=
  F.okX S (fun vs H Q E h => by obtain ⟨_, _, _, rfl, _⟩ := h; rfl) fun cdv A outer s H vs Q E hr h => ⟨_, hb cdv A outer s H E, by
    obtain ⟨p, C, y, rfl, T, hno, e, q⟩ := h
    exact ⟨y, rfl, .ref p, rfl, p, C, rfl, T, hno, .inl ⟨e, fun dx n ne => q dx n ne⟩⟩⟩
/-- a class with one field -/
def XI (P : Program) (w : World) (K : PySem.W.Frag) (mg : Str → Option Value) (base : Heap) (c f : Str) : Prop := ∃ (C fI : Addr) (fd : FuncData), cmOf K c = some C ∧ mg c = some (.ref C) ∧ OexC K C ∧
  PySem.W.findIn K (.ref C) "__init__" = some (some (.ref fI)) ∧ PySem.W.typeIn K (.ref fI) = some (.type "function") ∧ PySem.W.findIn K (.ref C) f = some none ∧ FnOk P w K mg base (L2.CX P w) 1 fI fd ["self", f] (spInit K f) ∧ Binds K fd ["self", f] []
/-- a class without -/
def X0 (K : PySem.W.Frag) (mg : Str → Option Value) (c : Str) : Prop := ∃ C : Addr, cmOf K c = some C ∧ mg c = some (.ref C) ∧ PySem.W.excIn K C [.type "ValueError", .type "Exception", .type "BaseException", .type "object"] "ValueError.__new__" = true ∧
  PySem.W.keepIn K (.ref C) = true ∧ PySem.W.subIn K (.ref C) (.type "BaseException") = some true ∧ PySem.W.typeIn K (.ref C) = some (.type "type")
end
def mRaise (c f : Str) (a : ME) : MS := fun ρ h => (a ρ h).out ρ fun d h1 => .exc c [(f, d)] ρ h1
def mRaise0 (c : Str) : MS := fun ρ h => .exc c [] ρ h
theorem passF {X : Cx} : Passes (L2.CX X.prog X.w) X (fun _ _ _ => False) := fun pins σ H s e s' I c => by
  obtain ⟨_, _, _, _, _, _, _, _, _, _, _, _, z⟩ := c
  exact z.elim
theorem made_heap {H : Hp} {p dx C : Addr} {f : Str} {y : V} (np : H p = none) (ne : dx ≠ p) : upd (del (upd (upd (upd H p (exo p C none)) dx (exd dx [(f, y)])) p (exo p C (some dx))) p) dx (.xd [(f, y)]) = upd H dx (.xd [(f, y)]) := by
  funext b
  by_cases h1 : b = dx
  · subst h1
    rw [upd_same, upd_same]
  · rw [upd_ne h1, upd_ne h1]
    by_cases h2 : b = p
    · subst h2
      rw [del_same, np]
    · rw [del_ne h2, upd_ne h2, upd_ne h1, upd_ne h2]
section
variable {X : Cx} {W : WX} {e : Expr} {me : ME} {c f m : Str} {p p2 pos pos2 : Pos} {j : Nat}
theorem sx_raise (I : XI X.prog X.w X.K X.mg X.base c f) (hr : Room 2 X.A) (tk : Takes X W) (he : PE X e (tE (gOf X.w X.K) W me)) (hc : X.calm = true := by rfl) (hg : Gl X c := by rfl) (hdb : (c == ("__debug__" : Str)) = false := by decide)
    (s1 : starEach [e] X.env = (false, eval e X.env) :: starEach [] X.env := by rfl) (hpl : (backTo pos (starEach [] X.env)).any (·.1) = false := by rfl) :
    PS X (.Raise (some (.Call (.Name c p) [e] [] pos)) none pos2) (tS (gOf X.w X.K) W (mRaise c f me)) := by
  obtain ⟨C, fI, fd, cm, hm, T, iC, tI, hno, F1, hb⟩ := I
  refine ps_mono (ps_raise hc tk (pmk_oex (dvs := []) T iC tI F1 hr hb .nil passF hg hm (pa_cons he pa_nil s1) hdb s1 hpl)) fun E σ H ⟨ρ, h, μ, sr, hr', bk⟩ => ?_
  refine stepS (rel := VR) (ma := me) (E := E) sr hr' bk fun v d h1 H1 μ1 m1 sr1 hr1 vx bk1 => ?_
  refine ⟨by show 1 ≤ 1000; decide, fun q nq => ⟨q, C, v, rfl, T, hno, upd_same, fun dx nx ne => ⟨rfl, dx, [(f, v)], upd_same, ?_, ?_, ?_⟩⟩⟩
  · rw [upd_ne ne, upd_same]
  · rw [upd_ne ne] at nx; exact nx
  · rw [made_heap nq ne]
    rw [upd_ne ne] at nx
    have m2 : Mon (gOf X.w X.K) H1 (upd H1 dx (.xd [(f, v)])) μ1 μ1 := (Saf.fresh nx).mon
    exact bk1 _ _ σ _ μ1 m2 (sr1.mono m2) (hr1.laid nx) ⟨C, rfl, cm, .inr ⟨dx, _, by simp, rfl, upd_same, .cons (vx.mono m2) .nil⟩⟩
end
/-! ### tables by truths -/
section
variable {K : PySem.W.Frag} {h : Heap} {mg : Str → Option Value}
theorem cm_mg {x : Str} {C : Addr} (X : K.In h) (G : h.Ns mainGlobals mg) (e : cmOf K x = some C) : mg x = some (.ref C) := by
  unfold cmOf at e
  split at e
  · rename_i C' q
    cases e
    exact PySem.W.mg_of X G q
  · cases e
/-- the class y, as isinstance and except ask for it -/
def IsT (K : PySem.W.Frag) (mg : Str → Option Value) (y : Str) (l : List (Str × Bool)) : Prop := ∃ D, mg y = some (.ref D) ∧ TabX K l fun C b => PySem.W.kitOne K (.ref C) (.ref D) = some b
def ExT (K : PySem.W.Frag) (mg : Str → Option Value) (y : Str) (l : List (Str × Bool)) : Prop := ∃ D, mg y = some (.ref D) ∧ TabX K l fun C b => PySem.W.exmOne K (.ref C) (.ref D) = some b
def isTB (K : PySem.W.Frag) (y : Str) (l : List (Str × Bool)) : Bool := match cmOf K y with
  | some D => tabXB K l fun C b => PySem.W.kitOne K (.ref C) (.ref D) == some b
  | none => false
def exTB (K : PySem.W.Frag) (y : Str) (l : List (Str × Bool)) : Bool := match cmOf K y with
  | some D => tabXB K l fun C b => PySem.W.exmOne K (.ref C) (.ref D) == some b
  | none => false
theorem isTB_ok {y : Str} {l : List (Str × Bool)} (X : K.In h) (G : h.Ns mainGlobals mg) (e : isTB K y l = true) : IsT K mg y l := by
  unfold isTB at e
  split at e
  · rename_i D q
    exact ⟨D, cm_mg X G q, tabXB_ok (fun C b z => by simpa using z) e⟩
  · cases e
theorem exTB_ok {y : Str} {l : List (Str × Bool)} (X : K.In h) (G : h.Ns mainGlobals mg) (e : exTB K y l = true) : ExT K mg y l := by
  unfold exTB at e
  split at e
  · rename_i D q
    exact ⟨D, cm_mg X G q, tabXB_ok (fun C b z => by simpa using z) e⟩
  · cases e
/-- a built-in class -/
def IsB (K : PySem.W.Frag) (y : String) (l : List (Str × Bool)) : Prop := TabX K l fun C b => PySem.W.kitOne K (.ref C) (.type y) = some b
def isBB (K : PySem.W.Frag) (y : String) (l : List (Str × Bool)) : Bool := tabXB K l fun C b => PySem.W.kitOne K (.ref C) (.type y) == some b
theorem isBB_ok {y : String} {l : List (Str × Bool)} (e : isBB K y l = true) : IsB K y l := tabXB_ok (fun C b z => by simpa using z) e
/-- several classes -/
def refsOf (K : PySem.W.Frag) : List Str → Option (List Addr)
  | [] => some []
  | y :: r => match cmOf K y, refsOf K r with
    | some D, some l => some (D :: l)
    | _, _ => none
def IsTs (K : PySem.W.Frag) (mg : Str → Option Value) (ys : List Str) (l : List (Str × Bool)) : Prop := ∃ Ds : List Addr, Paired (fun y D => mg y = some (.ref D)) ys Ds ∧ TabX K l fun C b => PySem.W.kitAny K (.ref C) (Ds.map .ref) = some b
def isTsB (K : PySem.W.Frag) (ys : List Str) (l : List (Str × Bool)) : Bool := match refsOf K ys with
  | some Ds => tabXB K l fun C b => PySem.W.kitAny K (.ref C) (Ds.map .ref) == some b
  | none => false
theorem refsOf_ok (X : K.In h) (G : h.Ns mainGlobals mg) : ∀ {ys : List Str} {Ds : List Addr}, refsOf K ys = some Ds → Paired (fun y D => mg y = some (.ref D)) ys Ds
  | [], _, e => by cases e; exact .nil
  | y :: r, _, e => by
    simp only [refsOf] at e
    split at e
    · rename_i D l h1 h2
      cases e
      exact .cons (cm_mg X G h1) (refsOf_ok X G h2)
    · cases e
theorem isTsB_ok {ys : List Str} {l : List (Str × Bool)} (X : K.In h) (G : h.Ns mainGlobals mg) (e : isTsB K ys l = true) : IsTs K mg ys l := by
  unfold isTsB at e
  split at e
  · rename_i Ds q
    exact ⟨Ds, refsOf_ok X G q, tabXB_ok (fun C b z => by simpa using z) e⟩
  · cases e
/-- a field -/
def FlT (K : PySem.W.Frag) (f : Str) (cs : List Str) : Prop := ∀ c ∈ cs, ∀ C, cmOf K c = some C → ClsX K C ∧ PySem.W.findIn K (.ref C) f = some none
def flTB (K : PySem.W.Frag) (f : Str) (cs : List Str) : Bool := cs.all fun c => match cmOf K c with
  | some C => clsXB K C && decide (PySem.W.findIn K (.ref C) f = some none)
  | none => false
theorem flTB_ok {f : Str} {cs : List Str} (e : flTB K f cs = true) : FlT K f cs := fun c hc C q => by
  have z := List.all_eq_true.mp e c hc
  rw [q] at z
  obtain ⟨z1, z2⟩ := Bool.and_eq_true_iff.mp z
  exact ⟨clsXB_ok z1, of_decide_eq_true z2⟩
/-- a class without fields, to be raised -/
def x0B (K : PySem.W.Frag) (c : Str) : Bool := match cmOf K c with
  | some C => PySem.W.excIn K C [.type "ValueError", .type "Exception", .type "BaseException", .type "object"] "ValueError.__new__" && (PySem.W.keepIn K (.ref C) && (decide (PySem.W.subIn K (.ref C) (.type "BaseException") = some true) && decide (PySem.W.typeIn K (.ref C) = some (.type "type"))))
  | none => false
theorem xi_mk {P : Program} {w : World} {base : Heap} {c f qual : Str} {st : Stmt} {C fI : Addr} {oc : Value} {od an : Option Addr} {osl : Array (Option Value)} {kV doc pm cdv ct : Value}
    (X : K.In h) (G : h.Ns mainGlobals mg) (a : PySem.W.nsIn K mainGlobals c = some (some (.ref C))) (hcls : OexC K C) (iC : PySem.W.findIn K (.ref C) "__init__" = some (some (.ref fI))) (tI : PySem.W.typeIn K (.ref fI) = some (.type "function")) (hno : PySem.W.findIn K (.ref C) f = some none)
    (l : K.lookup fI = some ⟨oc, od, .func (PySem.W.fnOf "__init__" qual (defArgs st) (defBody st) (defScope st) .none kV doc pm an cdv ct), osl⟩) (e : PySem.W.codeIn K cdv qual = true) (k : PySem.W.keepIn K (.ref fI) = true)
    (S : FnScope ["self", f] ["self", f] (defScope st))
    (hb : ∀ (fd : FuncData), Fun K "__init__" qual st fI fd → ∀ (cdv : Value) (A : Around) (outer : List Env) (s : Shared) (H : Hp) (E : XK), PSs (cxOf (L2.CX P w) P w K mg base ["self", f] qual (defScope st) fI cdv A outer s H E) (defBody st) (tOst K f (tVar 0) (tVar 1)))
    (hbn : ∀ (kV doc pm : Value) (an : Option Addr) (cdv ct : Value) (us : List Value), us.length = 2 → bindArgs (PySem.W.fnOf "__init__" qual (defArgs st) (defBody st) (defScope st) .none kV doc pm an cdv ct) ⟨us, []⟩ = pure ((["self", f] : List Str).zip us)) : XI P w K mg base c f := by
  have F := fun_mk (st := st) l e k
  exact ⟨C, fI, _, by unfold cmOf; rw [a], PySem.W.mg_of X G a, hcls, iC, tI, hno, xi_fn F S (hb _ F), F.binds hbn⟩
end

/-- a class over ValueError whose instances get fields -/
def oexB (K : PySem.W.Frag) (C : Addr) : Bool := (match K.lookup C with
  | some ⟨.type "type", _, .cls cd, sl⟩ => (match cd.mro, sl.toList with
    | .ref D :: bm, [_, _, _, _, some (.builtin n), _] => (D == C && (n == "ValueError.__new__" && (!cd.hasDel && (cd.hasDict && PySem.HandSPX.refsVE bm))))
    | _, _ => false)
  | _ => false) && (decide (PySem.W.findIn K (.ref C) "__setattr__" = some (some (.builtin "object.__setattr__"))) && (decide (PySem.W.subIn K (.ref C) (.type "BaseException") = some true) && (decide (PySem.W.typeIn K (.ref C) = some (.type "type")) && PySem.W.keepIn K (.ref C))))
theorem oexB_ok {K : PySem.W.Frag} {C : Addr} (h : oexB K C = true) : OexC K C := by
  unfold oexB at h
  obtain ⟨h, h'⟩ := Bool.and_eq_true_iff.mp h
  simp only [Bool.and_eq_true, decide_eq_true_eq] at h'
  obtain ⟨h1, h2, h3, h4⟩ := h'
  refine ⟨?_, h1, h2, h3, h4⟩
  split at h
  · rename_i dd cd sl ho
    split at h
    · rename_i D bm k0 k1 k2 k3 n k5 hm hs
      simp only [Bool.and_eq_true, beq_iff_eq, Bool.not_eq_true'] at h
      obtain ⟨rfl, rfl, hdel, hdd, hre⟩ := h
      obtain ⟨nm, bs, mro, ns, qn, hd, sn, sub, ab, col, del⟩ := cd
      dsimp only at hm hdel hdd
      subst hm hdel hdd
      have hsl : sl = #[k0, k1, k2, k3, some (.builtin "ValueError.__new__"), k5] := by
        obtain ⟨l⟩ := sl
        simp only at hs
        rw [hs]
      subst hsl
      exact ⟨nm, qn, ns, bs, bm, sn, sub, ab, col, dd, k0, k1, k2, k3, k5, ho, hre⟩
    · cases h
  · cases h
def inner (s : Stmt) (j : Nat) : Stmt := match s with
  | .ClassDef (body := b) .. => b.getD j (.Pass ⟨0, 0, 0, 0⟩)
  | _ => .Pass ⟨0, 0, 0, 0⟩
/-! ### as the generator writes them -/
section
variable {X : Cx} {W : WX} {a : Expr} {ma : ME} {x y n r : Str} {i j : Nat} {body : List Stmt} {mb : MS} {tab : List (Str × Bool)} {p p2 pos qn q0 q1 q2 q3 q4 : Pos}
theorem sx_try (T : ExT X.K X.mg x tab) (tk : Takes X W)
    (hbd : ∀ (W : WX) (pn : List (Addr × Obj)) (xe : Value → Shared → Prop), Takes (X.tr pn xe) W → PSs (X.tr pn xe) body (tS (gOf X.w X.K) W mb)) (hND : X.N.Nodup) (hg : Gl X x := by rfl) (hdb : (x == ("__debug__" : Str)) = false := by decide)
    (hi : X.N[i]? = some n := by rfl) (hj : X.N[j]? = some r := by rfl) (hij : i ≠ j := by decide) (hln : X.env.kindOf n = some .local := by rfl) (hlr : X.env.kindOf r = some .local := by rfl)
    (hst : X.stack = X.env :: X.outer := by rfl) (hfm : X.env.frame = some X.env.locals := by rfl) (hex : X.ex = [] := by rfl)
    (hdn : (n == ("__debug__" : Str)) = false := by decide) (hcd : (n == ("__classdict__" : Str)) = false := by decide)
    (hsw : swapsWith (.Name n q2) (some (.Name r q1)) q3.line X.env = pure false := by rfl) :
    PS X (.Try body [.ExceptHandler (some (.Name x qn)) (some n) [.Assign [.Name r q1] (.Name n q2) q3] q0] [] [] q4) (tS (gOf X.w X.K) W (mTryK tab i j mb)) := by
  obtain ⟨D, h1, h2⟩ := T
  exact sx_tryK tk ⟨hg, hdb, .inl h1⟩ h2 hbd hND hi hj hij hln hlr hst hfm hex hdn hcd hsw
theorem se_isO (T : IsT X.K X.mg y tab) (ha : PE X a (tE (gOf X.w X.K) W ma)) (hm : X.mg "isinstance" = none) (hgy : Gl X y := by rfl) (hdy : (y == ("__debug__" : Str)) = false := by decide) (hg : Gl X "isinstance" := by rfl)
    (s1 : starEach [a, .Name y p2] X.env = (false, eval a X.env) :: starEach [.Name y p2] X.env := by rfl) (s2 : starEach [.Name y p2] X.env = (false, eval (.Name y p2) X.env) :: starEach [] X.env := by rfl)
    (hpl : (backTo pos (starEach [.Name y p2] X.env)).any (·.1) = false := by rfl) : PE X (.Call (.Name "isinstance" p) [a, .Name y p2] [] pos) (tE (gOf X.w X.K) W (mIsX tab ma)) := by
  obtain ⟨D, h1, h2⟩ := T
  exact se_isX (cv := .ref D) (v := .ref D) ha hm (pe_glob hgy h1 rfl hdy) (fun w r => r) h2 hg s1 s2 hpl
theorem se_isV {t : String} (T : IsB X.K t tab) (ha : PE X a (tE (gOf X.w X.K) W ma)) (hm : X.mg "isinstance" = none) (hmy : X.mg y = none) (hv : bootBuiltins y = some (.type t)) (hgy : Gl X y := by rfl) (hny : y ≠ "__name__" := by decide) (hdy : (y == ("__debug__" : Str)) = false := by decide) (hg : Gl X "isinstance" := by rfl)
    (s1 : starEach [a, .Name y p2] X.env = (false, eval a X.env) :: starEach [.Name y p2] X.env := by rfl) (s2 : starEach [.Name y p2] X.env = (false, eval (.Name y p2) X.env) :: starEach [] X.env := by rfl)
    (hpl : (backTo pos (starEach [.Name y p2] X.env)).any (·.1) = false := by rfl) : PE X (.Call (.Name "isinstance" p) [a, .Name y p2] [] pos) (tE (gOf X.w X.K) W (mIsX tab ma)) :=
  se_isX (cv := .type t) (v := .ty t) ha hm (pe_bltn hgy hmy hv rfl hny hdy) (fun w r => r) T hg s1 s2 hpl
theorem se_fl {f : Str} {cs : List Str} (T : FlT X.K f cs) (ha : PE X a (tE (gOf X.w X.K) W ma)) (hab : attributeBase a f X.env (eval a X.env) = eval a X.env := by rfl) : PE X (.Attribute a f pos) (tE (gOf X.w X.K) W (mXf cs f ma)) := se_xf ha (fun c hc C e => T c hc C e) hab
inductive NmE (X : Cx) : List Expr → List Str → Prop
  | nil : NmE X [] []
  | cons {y : Str} {p : Pos} {es : List Expr} {ys : List Str} : Gl X y → (y == ("__debug__" : Str)) = false → starEach (.Name y p :: es) X.env = (false, eval (.Name y p) X.env) :: starEach es X.env → NmE X es ys → NmE X (.Name y p :: es) (y :: ys)
theorem nm_cons {y : Str} {p : Pos} {es : List Expr} {ys : List Str} (h : NmE X es ys) (hg : Gl X y := by rfl) (hd : (y == ("__debug__" : Str)) = false := by decide) (hs : starEach (.Name y p :: es) X.env = (false, eval (.Name y p) X.env) :: starEach es X.env := by rfl) : NmE X (.Name y p :: es) (y :: ys) := .cons hg hd hs h
theorem NmE.of : ∀ {es : List Expr} {ys : List Str} {Ds : List Addr}, NmE X es ys → Paired (fun y D => X.mg y = some (.ref D)) ys Ds → NmX X es (Ds.map .ref) (Ds.map .ref)
  | _, _, _, .nil, .nil => .nil
  | _, _, _, .cons a b c d, .cons e f => .cons (pe_glob a e rfl b) c (NmE.of d f)
theorem se_isOs {es : List Expr} {ys : List Str} {kx : Nat} (T : IsTs X.K X.mg ys tab) (ha : PE X a (tE (gOf X.w X.K) W ma)) (hm : X.mg "isinstance" = none) (hy : NmE X es ys) (hl : es.length ≤ 100 := by decide) (hg : Gl X "isinstance" := by rfl)
    (s1 : starEach [a, .Tuple es kx p2] X.env = (false, eval a X.env) :: starEach [.Tuple es kx p2] X.env := by rfl) (s2 : starEach [.Tuple es kx p2] X.env = (false, eval (.Tuple es kx p2) X.env) :: starEach [] X.env := by rfl)
    (hpl : (backTo pos (starEach [.Tuple es kx p2] X.env)).any (·.1) = false := by rfl) : PE X (.Call (.Name "isinstance" p) [a, .Tuple es kx p2] [] pos) (tE (gOf X.w X.K) W (mIsX tab ma)) := by
  obtain ⟨Ds, h1, h2⟩ := T
  exact se_isXT ha hm (hy.of h1) hl h2 hg s1 s2 hpl
end
end Mi

/-! The calculus for exceptions. -/
namespace Mi
open PySem L2
def isXK (tab : List (Str × Bool)) (x : D) (h : MH) : R D := match x with
  | .xo c _ _ => match tab.lookup c with
    | some b => .ok (.bl b) h
    | none => .bad
  | _ => .bad
def xfK (cs : List Str) (f : Str) (x : D) (h : MH) : R D := match x with
  | .xo c f' v => if c ∈ cs ∧ f' = f ∧ f ≠ Str.ofString "" then .ok v h else .bad
  | _ => .bad
def tryE (tab : List (Str × Bool)) (i j : Nat) (N : SP) (E : SX) : SX := fun c fs ρ h => match tab.lookup c with
  | some true => ∃ d, xoOf c fs = some d ∧ N (((ρ.set i none).set j (some d)).set i none) h
  | some false => E c fs ρ h
  | none => False
section
variable {N : SP} {T : D → MH → Prop} {B C : SP} {E : SX} {ρ : Slots} {h : MH} {a : ME} {b : MS} {c f : Str}
theorem w_raise (q : Sat (a ρ h) (fun d h1 => E c [(f, d)] ρ h1) fun x fs h => E x fs ρ h) : OS (mRaise c f a ρ h) N T B C E := Sat.ot (q.monoE (fun _ _ z => by rw [OS_exc]; exact z) fun _ _ _ z => z)
theorem w_raise0 (q : E c [] ρ h) : OS (mRaise0 c ρ h) N T B C E := by unfold mRaise0; rw [OS_exc]; exact q
theorem w_tryK {tab : List (Str × Bool)} {i j : Nat} (q : OS (b ρ h) N T B C (tryE tab i j N E)) : OS (mTryK tab i j b ρ h) N T B C E := by
  unfold mTryK
  cases e : b ρ h with
  | exc c fs ρ1 h1 =>
    rw [e, OS_exc] at q
    unfold tryE at q
    dsimp only
    split at q
    · rename_i l
      obtain ⟨d, e1, q⟩ := q
      (try rw [l])
      (try dsimp only)
      (try rw [e1])
      exact w_nx q
    · rename_i l
      (try rw [l])
      (try dsimp only)
      rw [OS_exc]
      exact q
    · exact q.elim
  | nx _ _ => rw [e, OS_nx] at q; exact w_nx q
  | rt _ _ => rw [e, OS_rt] at q; exact w_rt q
  | bk _ _ => rw [e, OS_bk] at q; exact w_bk q
  | ct _ _ => rw [e, OS_ct] at q; exact w_ct q
  | bad => rw [e, OS_bad] at q; exact q.elim
theorem tryE_t {tab : List (Str × Bool)} {i j : Nat} {fs : List (Str × D)} {d : D} (l : tab.lookup c = some true) (x : xoOf c fs = some d) (q : N (((ρ.set i none).set j (some d)).set i none) h) : tryE tab i j N E c fs ρ h := by
  unfold tryE
  rw [l]
  exact ⟨d, x, q⟩
variable {Q : D → MH → Prop} {X : XE}
theorem w_isX {tab : List (Str × Bool)} (q : Sat (a ρ h) (fun x h1 => Sat (isXK tab x h1) Q X) X) : Sat (mIsX tab a ρ h) Q X := Sat.bnd q
theorem w_isXK {tab : List (Str × Bool)} {v : D} {k : Bool} (l : tab.lookup c = some k) (q : Q (.bl k) h) : Sat (isXK tab (.xo c f v) h) Q X := w_eq (by simp only [isXK, l]) q
theorem w_xf {cs : List Str} (q : Sat (a ρ h) (fun x h1 => Sat (xfK cs f x h1) Q X) X) : Sat (mXf cs f a ρ h) Q X := Sat.bnd q
theorem w_xfK {cs : List Str} {v : D} (l : c ∈ cs) (n : f ≠ Str.ofString "") (q : Q v h) : Sat (xfK cs f (.xo c f v) h) Q X := w_eq (by unfold xfK; exact if_pos ⟨l, rfl, n⟩) q
theorem lk1 {x : Str} {k : Bool} : List.lookup x [(x, k)] = some k := by simp [List.lookup]
theorem isN_xo {c f : Str} {v : D} (h : MH) : dIsN (.xo c f v) .non h = .ok (.bl false) h := by unfold dIsN; simp
end
theorem w_lenLm {α : Type} {f : α → D} {l : List α} {Q : D → MH → Prop} {E : XE} {h : MH} {i : Nat} (c : getL h i = some (l.map f)) (q : Q (.int l.length) h) : Sat (dLen [.ref i] h) Q E := w_lenL c (by rw [List.length_map]; exact q)
theorem w_lenTm {α : Type} {f : α → D} {l : List α} {Q : D → MH → Prop} {E : XE} {h : MH} (q : Q (.int l.length) h) : Sat (dLen [.tup (l.map f)] h) Q E := w_eq (dLen_tup _ _) (by rw [List.length_map]; exact q)
theorem dNe_strs (x y : Str) (h : MH) : dNe (.str x) (.str y) h = .ok (.bl (!decide (x = y))) h := dNe_of (by unfold eqD; simp [scalD])
theorem dEq_bls (x y : Bool) (h : MH) : dEq (.bl x) (.bl y) h = .ok (.bl (decide (x = y))) h := dEq_of (by unfold eqD; simp [scalD])
theorem dNe_bls (x y : Bool) (h : MH) : dNe (.bl x) (.bl y) h = .ok (.bl (!decide (x = y))) h := dNe_of (by unfold eqD; simp [scalD])
theorem w_iterL {QI : List D × (MH → Bool) → MH → Prop} {E : XE} {h : MH} {i : Nat} {l : List D} (e : getL h i = some l) (q : QI (l, fun h' => decide (getL h' i = some l)) h) : Sat (iter1 (.ok (.ref i) h)) QI E := w_eq (iter1_ref _ _ _ e) q
end Mi

/-! except without a name; walks from the end. -/
namespace Mi
open PySem L2
def mTryO (tab : List (Str × Bool)) (b s : MS) : MS := fun ρ h => match b ρ h with
  | .exc c fs ρ1 h1 => match tab.lookup c with
    | some true => s ρ1 h1
    | some false => .exc c fs ρ1 h1
    | none => .bad
  | o => o
section
variable {X : Cx} {x : Str} {body suite : List Stmt} {b0 : Stmt} {qn q0 q4 : Pos} {mb ms : MS} {W : WX} {tab : List (Str × Bool)}
end
def tryO (tab : List (Str × Bool)) (s : MS) (N : SP) (T : D → MH → Prop) (B C : SP) (E : SX) : SX := fun c fs ρ h => match tab.lookup c with
  | some true => OS (s ρ h) N T B C E
  | some false => E c fs ρ h
  | none => False
theorem lkA {x : Str} {k : Bool} {l : List (Str × Bool)} : List.lookup x ((x, k) :: l) = some k := by simp [List.lookup]
theorem lkB {x y : Str} {b : Bool} {l : List (Str × Bool)} {r : Option Bool} (h : (x == y) = false) (q : List.lookup x l = r) : List.lookup x ((y, b) :: l) = r := by rw [List.lookup_cons, h]; exact q
end Mi

/-! Lists walked from the end; while by a measure. -/
namespace Mi
open PySem L2
def revK (x : D) (h1 : MH) : R (List D × (MH → Bool)) := match x with
  | .ref i => match getL h1 i with
    | some l => .ok (l.reverse, fun h' => decide (getL h' i = some l)) h1
    | none => .bad
  | _ => .bad
def mRevI (a : ME) : MI := fun ρ h => (a ρ h).bind fun x h1 => revK x h1
section
variable {X : Cx} {g : G} {W : WX} {e tg : Expr} {ma : ME} {p pos : Pos}
end
section
variable {N : SP} {T : D → MH → Prop} {B C : SP} {E : SX} {QI : List D × (MH → Bool) → MH → Prop} {X : XE}
theorem w_whGo {c : MT} {body : MS} (I : Nat → SP)
    (hs : ∀ m ρ h, I m ρ h → Sat (c ρ h) (fun b h1 => (b = true → OS (body ρ h1) (fun ρ' h' => ∃ m', m' < m ∧ I m' ρ' h') T N (fun ρ' h' => ∃ m', m' < m ∧ I m' ρ' h') E) ∧ (b = false → N ρ h1)) fun x fs h => E x fs ρ h) :
    ∀ (n m : Nat) (ρ : Slots) (h : MH), m < n → I m ρ h → OS (whGo c body n ρ h) N T B C E := by
  intro n
  induction n with
  | zero => intro m ρ h hm; omega
  | succ n ih =>
    intro m ρ h hm hi
    rw [whGo]
    refine Sat.ot ((hs m ρ h hi).monoE (fun b h1 q => ?_) fun _ _ _ z => z)
    cases b with
    | false =>
      rw [if_neg (by decide)]
      exact w_nx (q.2 rfl)
    | true =>
      rw [if_pos rfl]
      have q1 := q.1 rfl
      cases e : body ρ h1 with
      | nx ρ' h' =>
        rw [e, OS_nx] at q1
        obtain ⟨m', h1, h2⟩ := q1
        exact ih m' ρ' h' (by omega) h2
      | ct ρ' h' =>
        rw [e, OS_ct] at q1
        obtain ⟨m', h1, h2⟩ := q1
        exact ih m' ρ' h' (by omega) h2
      | bk ρ' h' => rw [e, OS_bk] at q1; exact w_nx q1
      | rt d h' => rw [e, OS_rt] at q1; exact w_rt q1
      | exc x fs ρ' h' => rw [e, OS_exc] at q1; simp only [OS_exc]; exact q1
      | bad => rw [e, OS_bad] at q1; exact q1.elim
theorem w_while {c : MT} {body : MS} {n : Nat} {ρ : Slots} {h : MH} (I : Nat → SP) (m : Nat) (hm : m < n) (hi : I m ρ h)
    (hs : ∀ m ρ h, I m ρ h → Sat (c ρ h) (fun b h1 => Br (b = true) (OS (body ρ h1) (fun ρ' h' => ∃ m', m' < m ∧ I m' ρ' h') T N (fun ρ' h' => ∃ m', m' < m ∧ I m' ρ' h') E) (N ρ h1)) fun x fs h => E x fs ρ h) : OS (mWhile n c body ρ h) N T B C E :=
  w_whGo I (fun m ρ h hi => (hs m ρ h hi).monoE (fun b h1 z => ⟨z.1, fun e => z.2 (by rw [e]; decide)⟩) fun _ _ _ z => z) n m ρ h hm hi
end

end Mi

/-! Lists and tuples many times. -/
namespace Mi
open PySem PySem.Spec PyProof.Rows L2
section
variable {X : Cx}
/-- a tuple of one item so many times -/
def rRepF (K : PySem.W.Frag) : R2 := fun x y H Q => ∃ l k z, x = .ref l ∧ y = .int k ∧ SqT K H l [z] ∧ 1 ≤ k ∧ k ≤ 1000 ∧
  (k = 1 → Q (.ref l) H) ∧ (2 ≤ k → ∀ (p : Addr) (ob : Obj), H p = none → ob.dict = none → Q (.ref p) (upd H p (.frz ob (.tup (List.replicate k.toNat [z]).flatten))))
end
def dRep : D → D → MH → R D
  | .ref i, .int n, h => match h[i]? with
    | some (.lst l) => if 0 ≤ n ∧ n ≤ 1000 ∧ l.length ≤ 1000 then .ok (.ref h.length) (h ++ [.lst (List.replicate n.toNat l).flatten]) else .bad
    | _ => .bad
  | .tup [z], .int n, h => if 1 ≤ n ∧ n ≤ 1000 then .ok (.tup (List.replicate n.toNat [z]).flatten) h else .bad
  | _, _, _ => .bad
section
variable {X : Cx} {g : G}
def rRepA (K : PySem.W.Frag) : R2 := fun x y H Q => rRep x y H Q ∨ rRepF K x y H Q
end
end Mi

/-! zip of tuples; sum, max of a list of ints. -/
namespace Mi
open PySem L2
def zipT (x y : D) (h : MH) : R (List D × (MH → Bool)) := match x, y with
  | .tup l, .tup m => .ok (zipD l m, yes) h
  | _, _ => .bad
def mZipT (a b : ME) : MI := fun ρ h => (a ρ h).bind fun x h1 => (b ρ h1).bind fun y h2 => zipT x y h2
section
variable {X : Cx} {g : G} {W : WX} {a b : Expr} {ma mb : ME} {pos : Pos}
theorem jr_zipT {H0 : Hp} {μ0 : List Addr} {p q : Addr} {xs ys : List V} {l m : List D} (hp : Tk g.K H0 p xs) (vs : VRs g H0 μ0 xs l) (hq : Tk g.K H0 q ys) (vt : VRs g H0 μ0 ys m) :
    JRr SV g H0 μ0 (RZ.ItzT g.K p q) (zipD l m, yes) := fun k H μ h mm hr gd => by
  have hs := (mm.tups _ _ hp).sq
  have ht := (mm.tups _ _ hq).sq
  have vs := vs.mono mm
  have vt := vt.mono mm
  refine ⟨fun lt => ?_, fun le => ?_⟩
  · obtain ⟨x, y, ex, ey, ed⟩ := zipD_get (List.getElem?_eq_getElem lt)
    obtain ⟨v, h1, h2⟩ := vs.get ex
    obtain ⟨w, h3, h4⟩ := vt.get ey
    refine ⟨⟨xs, ys, v, w, hs, ht, h1, h3⟩, fun z H' yl => ?_⟩
    obtain ⟨T, x', y', rfl, hT, rfl, e1, e2⟩ := yl
    have e1' := e1 xs hs
    have e2' := e2 ys ht
    rw [h1] at e1'
    rw [h3] at e2'
    cases e1'
    cases e2'
    have m2 : Mon g H (upd H T (.tup [v, w])) μ μ := (Saf.fresh hT).mon
    refine ⟨_, List.getElem?_eq_getElem lt, m2, hr.laid hT, T, [v, w], [x, y], rfl, ed, .inl (.inl upd_same), ?_⟩
    exact .cons (h2.mono m2) (.cons (h4.mono m2) .nil)
  · rw [zipD_length] at le
    refine ⟨xs, ys, hs, ht, ?_⟩
    rw [vs.length, vt.length]
    omega
theorem si_zipT {p tpos : Pos} {elts : List Expr} {kk : Nat} (hm : X.mg "zip" = none) (ha : PE X a (tE g W ma)) (hb : PE X b (tE g W mb)) (hg : Gl X "zip" := by rfl) (hK : X.K = g.K := by rfl)
    (hs : starEach [a, b] X.env = (false, eval a X.env) :: starEach [b] X.env := by rfl) (hs2 : starEach [b] X.env = (false, eval b X.env) :: starEach [] X.env := by rfl) (hpl : (backTo pos (starEach [b] X.env)).any (·.1) = false := by rfl) :
    PI X (.Tuple elts kk tpos) (.Call (.Name "zip" p) [a, b] [] pos) (tIr SV g W (mZipT ma mb)) :=
  pi_mono (RZ.pi_zipA hg hm (pa_cons ha (pa_cons hb pa_nil hs2) hs) hs hpl) fun σ H R ⟨ρ, h, μ, sr, hr, bk⟩ => step (rel := VR) (rel' := JRr SV) (ma := ma) (Q' := R) sr hr bk fun x d h1 H1 μ1 m1 sr1 hr1 vx bk1 =>
    step (rel := VR) (rel' := JRr SV) (ma := mb) (Q' := R) sr1 hr1 bk1 fun y d2 h2 H2 μ2 m2 sr2 hr2 vy bk2 => by
      have vx := vx.mono m2
      rw [hK]
      cases vx with
      | @tup p xs l hp vs =>
        cases vy with
        | @tup q ys m hq vt =>
          simp only [zipT] at bk2
          exact ⟨p, q, xs, ys, rfl, .inr ⟨hp.sq, hq.sq, bk2 _ H2 μ2 Mon.refl hr2 (jr_zipT hp vs hq vt)⟩⟩
        | _ => exact bk2.elim
      | _ => exact bk2.elim
end
/-- sum of a list of ints -/
def dSum : List D → MH → R D
  | [.ref i], h => match (getL h i).bind allInt with
    | some ns => .ok (.int ns.sum) h
    | none => .bad
  | _, _ => .bad
def topI : List Int → Int
  | [] => 0
  | [a] => a
  | a :: l => if topI l < a then a else topI l
def dMaxL : List D → MH → R D
  | [.ref i], h => match (getL h i).bind allInt with
    | some ns => if 0 < ns.length then .ok (.int (topI ns)) h else .bad
    | none => .bad
  | _, _ => .bad
section
variable {g : G}
end
/-! the calculus -/
section
variable {Q : D → MH → Prop} {QI : List D × (MH → Bool) → MH → Prop} {E : XE} {ρ : Slots} {h : MH} {a b : ME}
theorem w_zipT (q : Sat (a ρ h) (fun x h1 => Sat (b ρ h1) (fun y h2 => Sat (zipT x y h2) QI E) E) E) : Sat (mZipT a b ρ h) QI E := Sat.bnd (q.monoE (fun _ _ z => Sat.bnd z) fun _ _ _ z => z)
theorem w_zipTK {l m : List D} (q : QI (zipD l m, yes) h) : Sat (zipT (.tup l) (.tup m) h) QI E := w_ok q
end
end Mi
namespace Mi
open PySem L2
def m_names_c11ae : List D → MH → R D := mFun 1 7
 (mSeq (mAsg 1 (mC (.str (Str.ofString "abcdefghijklmnopqrstuvwxyz"))))
 (mSeq (mAsg 2 (mBin dMod (mVar 0) (mC (.int 26))))
 (mSeq (mAsg 3 (mMeth isStrD dJoin (mC (.str (Str.ofString ""))) (mCons (mLc (mRange1 (mC (.int 8))) (mgName 6) (mYes) (mBin dIx (mVar 1) (mBin dMod (mBin dAdd (mVar 2) (mBin dMul (mC (.int 3)) (mVar 6))) (mC (.int 26)))) [6]) (mNil))))
 (mSeq (mIf (mB (mBin dEq (mBin dMod (mBin dFdiv (mVar 0) (mC (.int 26))) (mC (.int 3))) (mC (.int 0))))
 (mSeq (mAsg 4 (mBin dMod (mBin dFdiv (mVar 0) (mC (.int 78))) (mC (.int 8))))
 (mSeq (mAsg 5 (mBin dMod (mBin dFdiv (mVar 0) (mC (.int 624))) (mC (.int 26))))
 (mRet (mLc (mRange1 (mC (.int 9))) (mgName 6) (mYes) (mBin dAdd (mBin dAdd (mSl (mVar 3) (mNo) (mSome (mVar 4))) (mBin dIx (mVar 1) (mBin dMod (mBin dAdd (mVar 5) (mVar 6)) (mC (.int 26))))) (mSl (mVar 3) (mSome (mBin dAdd (mVar 4) (mC (.int 1)))) (mNo))) [6]))))
 (mSkip))
 (mSeq (mIf (mB (mBin dEq (mBin dMod (mBin dFdiv (mVar 0) (mC (.int 26))) (mC (.int 3))) (mC (.int 1))))
 (mRet (mBin dAdd (mLc (mRange1 (mC (.int 8))) (mgName 6) (mYes) (mSl (mVar 3) (mNo) (mSome (mBin dAdd (mVar 6) (mC (.int 1))))) [6]) (mLst (mCons (mSl (mVar 3) (mSome (mC (.int 1))) (mNo)) (mNil)))))
 (mSkip))
 (mRet (mLc (mRange1 (mC (.int 9))) (mgName 6) (mYes) (mBin dIx (mVar 1) (mBin dMod (mBin dAdd (mVar 2) (mBin dMul (mC (.int 5)) (mVar 6))) (mC (.int 26)))) [6])))))))
def m_cell_at_2c4cb : List D → MH → R D := mFun 2 2
 (mSeq (mIf (mB (mBin dLt (mVar 1) (mCall dLen (mCons (mVar 0) (mNil)))))
 (mRet (mBin dIx (mVar 0) (mVar 1)))
 (mSkip))
 (mRet (mC (.int 0))))
def m_mix_1b9e1 : List D → MH → R D := mFun 2 3
 (mSeq (mAsg 2 (mBin dMod (mBin dMul (mBin dAdd (mBin dAdd (mVar 0) (mC (.int 1))) (mBin dMul (mVar 1) (mVar 1))) (mC (.int 48271))) (mC (.int 2147483629))))
 (mRet (mBin dMod (mBin dMul (mVar 2) (mBin dAdd (mBin dAdd (mBin dFdiv (mVar 2) (mC (.int 128))) (mBin dMul (mC (.int 69621)) (mVar 1))) (mC (.int 16807)))) (mC (.int 2147483587)))))
def m_tape_92891 : List D → MH → R D := mFun 2 5
 (mSeq (mAsg 2 (mLst (mNil)))
 (mSeq (mAsg 3 (mVar 0))
 (mSeq (mFor (mRange1 (mVar 1)) (mgName 4)
 (mIf (mB (mBin dGe (mVar 3) (mBin dPow (mC (.int 10)) (mC (.int 18)))))
 (mSeq (mDrop (mMeth isListD dAppend (mVar 2) (mCons (mBin dMod (mVar 3) (mC (.int 1000003))) (mNil))))
 (mAsg 3 (mBin dFdiv (mVar 3) (mC (.int 1000003)))))
 (mDrop (mMeth isListD dAppend (mVar 2) (mCons (mCall (m_mix_1b9e1) (mCons (mVar 0) (mCons (mVar 4) (mNil)))) (mNil))))))
 (mRet (mRevL (mVar 2))))))
def m_next_fea17 : List D → MH → R D := mFun 2 2
 (mSeq (mIf (mB (mBin dEq (mVar 0) (mLst (mNil))))
 (mRet (mC (.int 0)))
 (mSkip))
 (mRet (mBin dMod (mMeth isListD dPop (mVar 0) (mNil)) (mVar 1))))
end Mi
namespace Mi
open PySem L2
end Mi
namespace Mi
open PySem L2
def m_items_b2406 : Nat → List D → MH → R D
 | 0 => fun _ _ => .bad
 | n + 1 => mFun 3 6
    (mSeq (mAsg 3 (mLst (mNil)))
     (mSeq (mFor (mRange1 (mCall (m_next_fea17) (mCons (mVar 0) (mCons (mC (.int 4)) (mNil))))) (mgName 4)
     (mIf (mB (mBin dEq (mCall (m_next_fea17) (mCons (mVar 0) (mCons (mC (.int 3)) (mNil)))) (mC (.int 0))))
     (mDrop (mMeth isListD dAppend (mVar 3) (mCons (mC (.str (Str.ofString "*"))) (mNil))))
     (mIf (mB (mBin dEq (mVar 1) (mC (.int 0))))
     (mDrop (mMeth isListD dAppend (mVar 3) (mCons (mTup (mCons (mBin dIx (mVar 2) (mCall (m_next_fea17) (mCons (mVar 0) (mCons (mC (.int 9)) (mNil))))) (mCons (mTup (mNil)) (mNil)))) (mNil))))
     (mSeq (mAsg 5 (mBin dIx (mVar 2) (mCall (m_next_fea17) (mCons (mVar 0) (mCons (mC (.int 9)) (mNil))))))
     (mDrop (mMeth isListD dAppend (mVar 3) (mCons (mTup (mCons (mVar 5) (mCons (mCall (m_items_b2406 n) (mCons (mVar 0) (mCons (mBin dSub (mVar 1) (mC (.int 1))) (mCons (mVar 2) (mNil))))) (mNil)))) (mNil))))))))
     (mRet (mCall dTuple (mCons (mVar 3) (mNil))))))
def m_turner_aa784 : List D → MH → R D := mFun 5 10
 (mSeq (mAsg 5 (mCall (m_cell_at_2c4cb) (mCons (mVar 0) (mCons (mVar 1) (mNil)))))
 (mSeq (mAsg 6 (mLst (mNil)))
 (mSeq (mFor (mRange1 (mBin dMod (mVar 5) (mBin dAdd (mVar 2) (mC (.int 1))))) (mgName 7)
 (mSeq (mAsg 8 (mCall (m_tape_92891) (mCons (mCall (m_cell_at_2c4cb) (mCons (mVar 0) (mCons (mBin dAdd (mBin dAdd (mVar 1) (mC (.int 1))) (mVar 7)) (mNil)))) (mCons (mC (.int 120)) (mNil)))))
 (mSeq (mAsg 9 (mCall (m_next_fea17) (mCons (mVar 8) (mCons (mVar 4) (mNil)))))
 (mDrop (mMeth isListD dAppend (mVar 6) (mCons (mTup (mCons (mBin dIx (mVar 3) (mBin dMod (mBin dAdd (mBin dFdiv (mVar 5) (mC (.int 16))) (mBin dMul (mC (.int 2)) (mVar 7))) (mC (.int 9)))) (mCons (mCall (m_items_b2406 100) (mCons (mVar 8) (mCons (mVar 9) (mCons (mVar 3) (mNil))))) (mNil)))) (mNil)))))))
 (mRet (mCall dTuple (mCons (mVar 6) (mNil)))))))
def m_same_3d8da : Nat → List D → MH → R D
 | 0 => fun _ _ => .bad
 | n + 1 => mFun 2 4
    (mSeq (mIf (mB (mIsi "tuple" (mVar 1)))
     (mSeq (mIf (mOr (mNot (mB (mIsi "tuple" (mVar 0)))) (mB (mBin dNe (mCall dLen (mCons (mVar 0) (mNil))) (mCall dLen (mCons (mVar 1) (mNil))))))
     (mRet (mC (.bl false)))
     (mSkip))
     (mRet (mCall dAll (mCons (mLc (mZipT (mVar 0) (mVar 1)) (mgTup (mgCons (mgName 2) (mgCons (mgName 3) mgNil))) (mYes) (mCall (m_same_3d8da n) (mCons (mVar 2) (mCons (mVar 3) (mNil)))) [2, 3]) (mNil)))))
     (mSkip))
     (mSeq (mIf (mB (mIsi "str" (mVar 1)))
     (mRet (mAndV (mIsi "str" (mVar 0)) (mBin dEq (mVar 0) (mVar 1))))
     (mSkip))
     (mRet (mAndV (mIsi "int" (mVar 0)) (mAndV (mNotV (mIsi "bool" (mVar 0))) (mBin dEq (mVar 0) (mVar 1)))))))
end Mi
namespace Mi
open PySem L2
end Mi
namespace Mi
open PySem L2
local macro_rules | `(tactic| walk_at "w") => `(tactic| first
  | with_reducible refine w_asgT ?_
  | with_reducible refine w_eq (isi_str_str _ _) ?_
  | with_reducible refine w_eq (isi_int_int _ _) ?_
  | with_reducible refine w_eq (isi_tup_tup _ _) ?_)
local macro_rules | `(tactic| walk_at "w") => `(tactic| first
  | with_reducible refine w_un ?_
  | with_reducible refine w_rev1 ?_
  | with_reducible refine w_rev2 ?_
  | with_reducible refine w_chain ?_
  | with_reducible refine w_chK ?_
  | with_reducible refine w_retN ?_
  | with_reducible refine w_brk ?_
  | with_reducible refine w_cont ?_)
local macro_rules | `(tactic| walk_at "w") => `(tactic| first
  | with_reducible refine w_notV ?_
  | with_reducible refine w_andK ?_
  | with_reducible refine w_orK ?_
  | with_reducible refine w_notK ?_
  | with_reducible refine w_revL ?_
  | with_reducible refine w_listRg1 ?_
  | with_reducible refine w_tindex ?_
  | with_reducible refine w_setIx ?_)
local macro_rules | `(tactic| walk_at "w") => `(tactic| first
  | with_reducible refine w_some ?_
  | with_reducible refine w_unI ?_
  | with_reducible refine w_meth ?_
  | with_reducible refine w_isi ?_
  | with_reducible refine w_zip ?_
  | with_reducible refine w_ifE ?_
  | with_reducible refine w_andV ?_
  | with_reducible refine w_orV ?_)
local macro_rules | `(tactic| walk_at "w") => `(tactic| first
  | with_reducible refine w_range2 ?_
  | ((with_reducible refine w_dR1 ?_ ?_); (first | decide | omega))
  | ((with_reducible refine w_dR2 ?_ ?_); (first | decide | omega))
  | with_reducible refine w_iter ?_
  | with_reducible refine w_eq (iter1_tup _ _) ?_
  | with_reducible refine w_eq (iter1_str _ _) ?_
  | with_reducible refine w_sl ?_
  | with_reducible refine w_no ?_)
local macro_rules | `(tactic| walk_at "w") => `(tactic| first
  | ((with_reducible refine br_dt ?_ ?_); (first | assumption | omega))
  | ((with_reducible refine br_df ?_ ?_); (first | assumption | omega))
  | with_reducible refine w_tup ?_
  | ((with_reducible refine w_toTup ?_ ?_); (first | (simp; done)))
  | with_reducible refine w_lst ?_
  | with_reducible refine w_lc ?_
  | with_reducible refine w_for ?_
  | with_reducible refine w_range1 ?_)
local macro_rules | `(tactic| walk_at "w") => `(tactic| first
  | with_reducible refine w_eq (dMin_ev _ _ _) ?_
  | with_reducible refine w_eq (dAbs_ev _ _) ?_
  | with_reducible refine w_not ?_
  | with_reducible refine w_and ?_
  | with_reducible refine w_or ?_
  | with_reducible refine br_n ?_
  | with_reducible refine br_tt ?_
  | with_reducible refine br_ff ?_)
local macro_rules | `(tactic| walk_at "w") => `(tactic| first
  | ((with_reducible refine w_fdiv ?_ ?_); (first | assumption | decide | omega))
  | ((with_reducible refine w_mulS ?_ ?_); (first | decide | omega))
  | ((with_reducible refine w_addS ?_ ?_); (first | assumption | decide | omega))
  | ((with_reducible refine w_lenS ?_ ?_); (first | assumption | decide | omega))
  | ((with_reducible refine w_slS ?_ ?_); (first | assumption | decide | omega))
  | with_reducible refine w_eq (dLen_tup _ _) ?_
  | with_reducible refine w_eq (dSl_tup _ _ _ _) ?_
  | with_reducible refine w_eq (dMax_ev _ _ _) ?_)
local macro_rules | `(tactic| walk_at "w") => `(tactic| first
  | with_reducible refine w_eq (dEq_int _ _ _) ?_
  | with_reducible refine w_eq (dEq_str _ _ _) ?_
  | with_reducible refine w_eq (dLt_int _ _ _) ?_
  | with_reducible refine w_eq (dLe_int _ _ _) ?_
  | with_reducible refine w_eq (dGt_int _ _ _) ?_
  | with_reducible refine w_eq (dGe_int _ _ _) ?_
  | with_reducible refine w_eq (dNe_int _ _ _) ?_
  | ((with_reducible refine w_mod ?_ ?_); (first | assumption | decide | omega)))
local macro_rules | `(tactic| walk_at "w") => `(tactic| first
  | with_reducible refine w_if ?_
  | with_reducible refine w_B ?_
  | with_reducible refine w_unB ?_
  | with_reducible refine w_ret ?_
  | with_reducible refine w_drop ?_
  | with_reducible refine w_skip ?_
  | with_reducible refine w_eq (dAdd_int _ _ _) ?_
  | with_reducible refine w_eq (dSub_int _ _ _) ?_)
local macro_rules | `(tactic| walk_at "w") => `(tactic| first
  | with_reducible refine w_seq ?_
  | with_reducible refine w_asg ?_
  | with_reducible refine w_cons ?_
  | with_reducible refine w_nil ?_
  | with_reducible refine w_c ?_
  | ((with_reducible refine w_var (d := ?_) ?_ ?_); rotate_left; rfl)
  | with_reducible refine w_bin ?_
  | with_reducible refine w_call ?_)
local macro_rules | `(tactic| walk_at "go") => `(tactic| (repeat (walk_at "w")); try dsimp only [List.set])
local macro_rules | `(tactic| walk_at "fn") => `(tactic| ((refine w_fun ?_); simp only [startD, List.map_cons, List.map_nil, List.reduceReplicate, Nat.reduceSub, List.cons_append, List.nil_append]; walk_at "go"))
theorem mod_in (x : Int) {n : Int} (h : 0 < n) : 0 ≤ x % n ∧ x % n < n := ⟨Int.emod_nonneg _ (by omega), Int.emod_lt_of_pos _ h⟩
def Cell (c : Int) : Prop := Builtin.Int.intBits c ≤ 1048576
theorem c_cell_at {ns : List Int} (hb : ∀ z ∈ ns, Cell z) {h : MH} {i : Nat} (hl : getL h i = some (ns.map D.int)) {k : Int} (h0 : 0 ≤ k) : Sat (m_cell_at_2c4cb [.ref i, .int k] h) (fun d h' => h' = h ∧ ∃ c, d = .int c ∧ Cell c) noX := by
  walk_at "fn"
  refine w_lenL hl ?_
  walk_at "go"
  refine br_d (fun c => ?_) (fun c => ?_)
  · walk_at "go"
    rw [List.length_map] at c
    obtain ⟨d, e1, e2⟩ := atI_in (l := ns.map D.int) h0 (by simpa using c)
    refine w_ixL hl e1 ⟨rfl, ?_⟩
    rw [List.getElem?_map, Option.map_eq_some_iff] at e2
    obtain ⟨z, e3, rfl⟩ := e2
    exact ⟨z, rfl, hb z (List.mem_of_getElem? e3)⟩
  · walk_at "go"
    exact ⟨rfl, 0, rfl, show Builtin.Int.intBits 0 ≤ 1048576 by decide⟩
theorem bits_pow {i : Int} {n : Nat} (h : Builtin.Int.intBits i ≤ n) : i.natAbs < 2 ^ n := by
  unfold Builtin.Int.intBits at h
  split at h
  · rename_i hz
    have : i.natAbs = 0 := by simpa using hz
    rw [this]
    exact Nat.two_pow_pos n
  · rename_i hz
    have hz' : i.natAbs ≠ 0 := by simpa using hz
    exact (Nat.log2_lt hz').mp (by omega)
theorem bits_add {i j : Int} {n : Nat} (h : Builtin.Int.intBits i ≤ n) (hj : j.natAbs < 2 ^ n) : Builtin.Int.intBits (i + j) ≤ n + 1 := by
  have h1 := bits_pow h
  refine bits_lt ?_
  rw [Nat.pow_succ]
  omega
theorem bits_addS {i j : Int} (h : Cell i) (h0 : -1000000000000 < j) (h1 : j < 1000000000000) : Builtin.Int.intBits (i + j) ≤ 1048577 :=
  bits_add h (Nat.lt_of_lt_of_le (show j.natAbs < 2 ^ 40 by omega) (Nat.pow_le_pow_right (by decide) (by decide)))
def Tp (l : List D) : Prop := ∃ zs : List Int, l = zs.map .int ∧ ∀ z ∈ zs, 0 ≤ z ∧ z < 2147483648
theorem Tp.nil : Tp [] := ⟨[], rfl, fun z hz => by simp at hz⟩
theorem Tp.app {l : List D} {v : Int} (t : Tp l) (hv : 0 ≤ v ∧ v < 2147483648) : Tp (l ++ [.int v]) := by
  obtain ⟨zs, rfl, hz⟩ := t
  refine ⟨zs ++ [v], by simp, fun z hm => ?_⟩
  rcases List.mem_append.mp hm with hm | hm
  · exact hz z hm
  · rw [List.mem_singleton.mp hm]; exact hv
theorem Tp.rev {l : List D} (t : Tp l) : Tp l.reverse := by
  obtain ⟨zs, rfl, hz⟩ := t
  exact ⟨zs.reverse, by simp, fun z hm => hz z (by simpa using hm)⟩
/-! equal lists of scalars -/
theorem allSome_map {α β : Type} (g : α → β) : ∀ l : List α, allSome (l.map fun a => some (g a)) = some (l.map g)
  | [] => rfl
  | a :: l => by simp [allSome, allSome_map g l]
structure Scal {α : Type} (S : α → Prop) (f : α → D) (g : α → PyData) : Prop where
  py : ∀ n h a, pyOf (n + 1) h (f a) = some (g a)
  lay : ∀ a, S a → PyData.canLay0 (g a) = true
  dep : ∀ a, PyData.depth (g a) = 0
  ev : ∀ a b, PyData.eqv (g a) (g b) = true ↔ a = b
theorem Scal.all {α : Type} {S : α → Prop} {f : α → D} {g : α → PyData} (c : Scal S f g) : ∀ {l : List α}, (∀ a ∈ l, S a) → PyData.canLayAll0 (l.map g) = true ∧ PyData.depthAll (l.map g) = 0
  | [], _ => ⟨rfl, rfl⟩
  | a :: l, h => by
    obtain ⟨h1, h2⟩ := c.all (l := l) fun b hb => h b (List.mem_cons_of_mem _ hb)
    simp only [List.map_cons, PyData.canLayAll0, PyData.depthAll, c.lay a (h a List.mem_cons_self), h1, c.dep, h2]
    exact ⟨rfl, rfl⟩
theorem Scal.eq {α : Type} {S : α → Prop} {f : α → D} {g : α → PyData} (c : Scal S f g) [DecidableEq α] : ∀ {l m : List α}, PyData.eqvAll (l.map g) (m.map g) = decide (l = m)
  | [], [] => rfl
  | a :: l, [] => rfl
  | [], a :: l => rfl
  | a :: l, b :: m => by
    simp only [List.map_cons, PyData.eqvAll, c.eq (l := l) (m := m)]
    rw [Bool.eq_iff_iff, Bool.and_eq_true, c.ev, decide_eq_true_iff, decide_eq_true_iff, List.cons.injEq]
theorem Scal.eqL {α : Type} {S : α → Prop} {f : α → D} {g : α → PyData} (c : Scal S f g) [DecidableEq α] {h : MH} {i j : Nat} {l m : List α} (hi : getL h i = some (l.map f)) (hj : getL h j = some (m.map f)) (hl : ∀ a ∈ l, S a) (hm : ∀ a ∈ m, S a) : eqD (.ref i) (.ref j) h = some (decide (l = m)) := by
  have py : ∀ (l : List α), (allSome ((l.map f).map (pyOf 59 h))) = some (l.map g) := fun l => by
    rw [List.map_map, ← allSome_map g l]
    congr 1
    exact List.map_congr_left fun a _ => c.py 58 h a
  have sh : ∀ (l : List α), (∀ a ∈ l, S a) → SeqAt.shaped (.list (l.map g)) = true := fun l hl => by
    obtain ⟨h1, h2⟩ := c.all hl
    simp only [SeqAt.shaped, PyData.canLay0, PyData.depth, h1, h2]
    rfl
  unfold eqD
  rw [if_neg (by simp [scalD])]
  simp only [pyOf, hi, hj, Option.bind_some, py, Option.map_some, sh l hl, sh m hm, true_and, if_true, PyData.eqv, c.eq]
theorem scal_int : Scal (fun _ => True) D.int PyData.int := ⟨fun _ _ _ => rfl, fun _ _ => rfl, fun _ => rfl, fun a b => by simp [PyData.eqv]⟩
def OkS (x : Str) : Prop := ∀ c ∈ x.cps.toList, c < 1114112
theorem scal_str : Scal OkS D.str PyData.str := ⟨fun _ _ _ => rfl, fun a h => by
  simp only [PyData.canLay0, PyData.strOk]
  rw [Array.all_eq_true']
  intro x hx
  exact decide_eq_true (h x (Array.mem_toList_iff.mpr hx)), fun _ => rfl, fun a b => by simp [PyData.eqv]⟩
theorem set_self {α : Type} {l : List α} {n : Nat} {a : α} (e : l[n]? = some a) : l.set n a = l := by
  obtain ⟨h1, h2⟩ := List.getElem?_eq_some_iff.mp e
  subst h2
  exact List.set_getElem_self h1
theorem c_next {h0 h : MH} {L : LL} (o : Own h0 h L) (n : Nat) {i : Nat} {l : List D} (e : L[n]? = some (i, l)) (tl : Tp l) {m : Int} (hm : 0 < m) : Sat (m_next_fea17 [.ref i, .int m] h) (fun d h' => ∃ v l', d = .int v ∧ 0 ≤ v ∧ v < m ∧ Tp l' ∧ Own h0 h' (L.set n (i, l'))) noX := by
  walk_at "fn"
  refine o_new o (by simp) fun j h1 o1 => ?_
  walk_at "go"
  obtain ⟨zs, rfl, hz⟩ := tl
  have e1 : ((j, []) :: L)[n + 1]? = some (i, zs.map .int) := by simpa using e
  refine w_eqK (scal_int.eqL (l := zs) (m := []) (o1.atL (n + 1) e1) (o1.atL 0 rfl) (fun _ _ => trivial) (fun _ _ => trivial)) ?_
  walk_at "go"
  refine br_d (fun c => ?_) (fun c => ?_)
  · subst c
    walk_at "go"
    refine ⟨0, [], rfl, by decide, hm, Tp.nil, ?_⟩
    rw [set_self (a := (i, [])) (by simpa using e)]
    exact o1.tail
  · walk_at "go"
    refine ⟨o1.isL (n + 1) e1, ?_⟩
    walk_at "go"
    obtain ⟨ys, y, rfl⟩ : ∃ ys y, zs = ys ++ [y] := ⟨zs.dropLast, zs.getLast c, (List.dropLast_concat_getLast c).symm⟩
    rw [List.map_append] at e1
    refine o_pop o1 (n + 1) e1 fun h2 o2 => ?_
    walk_at "go"
    have hv := mod_in y hm
    refine ⟨_, _, rfl, hv.1, hv.2, ⟨ys, rfl, fun z hz' => hz z (by simp [hz'])⟩, ?_⟩
    rw [List.set_cons_succ] at o2
    exact o2.tail
/-! names -/
def Wd (n : Nat) (x : Str) : Prop := x.length ≤ n ∧ OkS x
theorem str_len (x : Str) : x.length = x.cps.toList.length := by rw [Array.length_toList]; rfl
theorem app_cps (x y : Str) : (x ++ y).cps.toList = x.cps.toList ++ y.cps.toList := by
  show (x.cps ++ y.cps).toList = _
  rw [Array.toList_append]
theorem app_len (x y : Str) : (x ++ y).length = x.length + y.length := by rw [str_len, str_len, str_len, app_cps, List.length_append]
theorem Wd.app {a b : Nat} {x y : Str} (hx : Wd a x) (hy : Wd b y) : Wd (a + b) (x ++ y) := ⟨by rw [app_len]; exact Nat.add_le_add hx.1 hy.1, fun c hc => by
  rw [app_cps] at hc
  rcases List.mem_append.mp hc with h | h
  · exact hx.2 c h
  · exact hy.2 c h⟩
theorem Wd.cut {a : Nat} {x : Str} (hx : Wd a x) (lo hi : Option Int) : Wd a (cutS x lo hi) := ⟨Nat.le_trans (cutS_length x lo hi) hx.1, fun c hc => hx.2 c (List.mem_of_mem_drop (List.mem_of_mem_take hc))⟩
theorem Wd.sign {a : Nat} {x : Str} (hx : Wd a x) {c : Nat} (hc : c ∈ x.cps.toList) : Wd 1 ⟨#[c]⟩ := ⟨Nat.le_refl 1, fun d hd => by
  have : d = c := by simpa using hd
  subst this
  exact hx.2 _ hc⟩
theorem Wd.le {a b : Nat} {x : Str} (hx : Wd a x) (h : a ≤ b) : Wd b x := ⟨Nat.le_trans hx.1 h, hx.2⟩
theorem joinL_nil : ∀ ps : List (List Nat), TL.joinL [] ps = ps.flatten
  | [] => rfl
  | [p] => by simp [TL.joinL]
  | p :: q :: r => by simp [TL.joinL, joinL_nil (q :: r)]
theorem join_cps (ys : List Str) : (Txt.join (Str.ofString "") ys).cps.toList = (ys.map fun y => y.cps.toList).flatten := by
  have e : Txt.join (Str.ofString "") ys = Str.join (Str.ofString "") ys := StrLaws.glued_eq_join _ _
  rw [e]
  exact (TL.tl_join _ _).trans (joinL_nil _)
theorem Wd.join : ∀ {ys : List Str}, (∀ y ∈ ys, Wd 1 y) → Wd ys.length (Txt.join (Str.ofString "") ys) := fun {ys} h => by
  constructor
  · rw [str_len, join_cps]
    induction ys with
    | nil => simp
    | cons y ys ih =>
      have h1 := (h y List.mem_cons_self).1
      have h2 := ih fun z hz => h z (List.mem_cons_of_mem _ hz)
      rw [str_len] at h1
      simp only [List.map_cons, List.flatten_cons, List.length_append, List.length_cons]
      omega
  · intro c hc
    rw [join_cps] at hc
    obtain ⟨l, hl, hc⟩ := List.mem_flatten.mp hc
    obtain ⟨y, hy, rfl⟩ := List.mem_map.mp hl
    exact (h y hy).2 c hc
theorem lt_len : (Str.ofString "abcdefghijklmnopqrstuvwxyz").length = 26 := by decide +kernel
def Wds (n : Nat) (l : List D) : Prop := ∃ ns : List Str, l = ns.map .str ∧ ∀ x ∈ ns, Wd n x
theorem Wds.app {n : Nat} {l m : List D} (hl : Wds n l) (hm : Wds n m) : Wds n (l ++ m) := by
  obtain ⟨a, rfl, ha⟩ := hl
  obtain ⟨b, rfl, hb⟩ := hm
  refine ⟨a ++ b, by simp, fun x hx => ?_⟩
  rcases List.mem_append.mp hx with h | h
  · exact ha x h
  · exact hb x h
theorem Wds.one {n : Nat} {x : Str} (h : Wd n x) : Wds n [.str x] := ⟨[x], rfl, fun y hy => by rw [List.mem_singleton.mp hy]; exact h⟩
/-! machines -/
def InL (n : Int) (l : List D) : Prop := ∀ d ∈ l, ∃ v, d = .int v ∧ 0 ≤ v ∧ v < n
theorem InL.nil (n : Int) : InL n [] := fun d hd => by simp at hd
theorem InL.app {n : Int} {l : List D} {v : Int} (h : InL n l) (h0 : 0 ≤ v) (h1 : v < n) : InL n (l ++ [.int v]) := fun d hd => by
  rcases List.mem_append.mp hd with q | q
  · exact h d q
  · exact ⟨v, List.mem_singleton.mp q, h0, h1⟩
theorem InL.of {n : Int} {ys : List D} (h : ∀ (i : Nat) y, ys[i]? = some y → ∃ v, y = .int v ∧ 0 ≤ v ∧ v < n) : InL n ys := fun d hd => by
  obtain ⟨k, hk⟩ := List.getElem?_of_mem hd
  exact h k d hk
theorem Wds.cut {n : Nat} {l : List D} (h : Wds n l) (lo hi : Option Int) : Wds n (cutD l lo hi) := by
  obtain ⟨ns, rfl, hn⟩ := h
  refine ⟨(ns.drop (HT.sIx ns.length 0 lo)).take (HT.sIx ns.length ns.length hi - HT.sIx ns.length 0 lo), ?_, fun x hx => hn x (List.mem_of_mem_drop (List.mem_of_mem_take hx))⟩
  unfold cutD
  rw [List.length_map, List.map_take, List.map_drop]
structure Mach (F N S T K : List D) (m : Int) : Prop where
  m1 : 1 ≤ m
  fs : Wds 20 F
  fl : F.length ≤ 9
  ns : Wds 20 N
  nl : N.length ≤ 9
  ss : InL m S
  sl : S.length = N.length + 1
  tl : (T.length : Int) = m
  ts : ∀ r ∈ T, ∃ l, r = .tup l ∧ (l.length : Int) = m ∧ InL m l
  kl : (K.length : Int) = m
  ks : InL (2 ^ F.length) K
end Mi
namespace Mi
open PySem L2
local macro_rules | `(tactic| walk_at "w") => `(tactic| first
  | with_reducible refine w_asgT ?_
  | with_reducible refine w_eq (isi_str_str _ _) ?_
  | with_reducible refine w_eq (isi_int_int _ _) ?_
  | with_reducible refine w_eq (isi_tup_tup _ _) ?_)
local macro_rules | `(tactic| walk_at "w") => `(tactic| first
  | with_reducible refine w_un ?_
  | with_reducible refine w_rev1 ?_
  | with_reducible refine w_rev2 ?_
  | with_reducible refine w_chain ?_
  | with_reducible refine w_chK ?_
  | with_reducible refine w_retN ?_
  | with_reducible refine w_brk ?_
  | with_reducible refine w_cont ?_)
local macro_rules | `(tactic| walk_at "w") => `(tactic| first
  | with_reducible refine w_notV ?_
  | with_reducible refine w_andK ?_
  | with_reducible refine w_orK ?_
  | with_reducible refine w_notK ?_
  | with_reducible refine w_revL ?_
  | with_reducible refine w_listRg1 ?_
  | with_reducible refine w_tindex ?_
  | with_reducible refine w_setIx ?_)
local macro_rules | `(tactic| walk_at "w") => `(tactic| first
  | with_reducible refine w_some ?_
  | with_reducible refine w_unI ?_
  | with_reducible refine w_meth ?_
  | with_reducible refine w_isi ?_
  | with_reducible refine w_zip ?_
  | with_reducible refine w_ifE ?_
  | with_reducible refine w_andV ?_
  | with_reducible refine w_orV ?_)
local macro_rules | `(tactic| walk_at "w") => `(tactic| first
  | with_reducible refine w_range2 ?_
  | ((with_reducible refine w_dR1 ?_ ?_); (first | decide | omega))
  | ((with_reducible refine w_dR2 ?_ ?_); (first | decide | omega))
  | with_reducible refine w_iter ?_
  | with_reducible refine w_eq (iter1_tup _ _) ?_
  | with_reducible refine w_eq (iter1_str _ _) ?_
  | with_reducible refine w_sl ?_
  | with_reducible refine w_no ?_)
local macro_rules | `(tactic| walk_at "w") => `(tactic| first
  | ((with_reducible refine br_dt ?_ ?_); (first | assumption | omega))
  | ((with_reducible refine br_df ?_ ?_); (first | assumption | omega))
  | with_reducible refine w_tup ?_
  | ((with_reducible refine w_toTup ?_ ?_); exact (by simp))
  | with_reducible refine w_lst ?_
  | with_reducible refine w_lc ?_
  | with_reducible refine w_for ?_
  | with_reducible refine w_range1 ?_)
local macro_rules | `(tactic| walk_at "w") => `(tactic| first
  | with_reducible refine w_eq (dMin_ev _ _ _) ?_
  | with_reducible refine w_eq (dAbs_ev _ _) ?_
  | with_reducible refine w_not ?_
  | with_reducible refine w_and ?_
  | with_reducible refine w_or ?_
  | with_reducible refine br_n ?_
  | with_reducible refine br_tt ?_
  | with_reducible refine br_ff ?_)
local macro_rules | `(tactic| walk_at "w") => `(tactic| first
  | ((with_reducible refine w_fdiv ?_ ?_); (first | assumption | decide | omega))
  | ((with_reducible refine w_mulS ?_ ?_); (first | decide | omega))
  | ((with_reducible refine w_addS ?_ ?_); (first | assumption | decide | omega))
  | ((with_reducible refine w_lenS ?_ ?_); (first | assumption | decide | omega))
  | ((with_reducible refine w_slS ?_ ?_); (first | assumption | decide | omega))
  | with_reducible refine w_eq (dLen_tup _ _) ?_
  | with_reducible refine w_eq (dSl_tup _ _ _ _) ?_
  | with_reducible refine w_eq (dMax_ev _ _ _) ?_)
local macro_rules | `(tactic| walk_at "w") => `(tactic| first
  | with_reducible refine w_eq (dEq_int _ _ _) ?_
  | with_reducible refine w_eq (dEq_str _ _ _) ?_
  | with_reducible refine w_eq (dLt_int _ _ _) ?_
  | with_reducible refine w_eq (dLe_int _ _ _) ?_
  | with_reducible refine w_eq (dGt_int _ _ _) ?_
  | with_reducible refine w_eq (dGe_int _ _ _) ?_
  | with_reducible refine w_eq (dNe_int _ _ _) ?_
  | ((with_reducible refine w_mod ?_ ?_); (first | assumption | decide | omega)))
local macro_rules | `(tactic| walk_at "w") => `(tactic| first
  | with_reducible refine w_if ?_
  | with_reducible refine w_B ?_
  | with_reducible refine w_unB ?_
  | with_reducible refine w_ret ?_
  | with_reducible refine w_drop ?_
  | with_reducible refine w_skip ?_
  | with_reducible refine w_eq (dAdd_int _ _ _) ?_
  | with_reducible refine w_eq (dSub_int _ _ _) ?_)
local macro_rules | `(tactic| walk_at "w") => `(tactic| first
  | with_reducible refine w_seq ?_
  | with_reducible refine w_asg ?_
  | with_reducible refine w_cons ?_
  | with_reducible refine w_nil ?_
  | with_reducible refine w_c ?_
  | ((with_reducible refine w_var (d := ?_) ?_ ?_); rotate_left; rfl)
  | with_reducible refine w_bin ?_
  | with_reducible refine w_call ?_)
local macro_rules | `(tactic| walk_at "go") => `(tactic| (repeat (walk_at "w")); try dsimp only [List.set])
local macro_rules | `(tactic| walk_at "fn") => `(tactic| ((refine w_fun ?_); simp only [startD, List.map_cons, List.map_nil, List.reduceReplicate, Nat.reduceSub, List.cons_append, List.nil_append]; walk_at "go"))
theorem Own.del {h0 h : MH} {L : LL} (o : Own h0 h L) (n : Nat) : Own h0 h (L.eraseIdx n) := o.sub (List.eraseIdx_sublist _ _)
end Mi
namespace Mi
open PySem L2
local macro_rules | `(tactic| walk_at "gl") => `(tactic| first
  | assumption
  | (refine Own.atL (h0 := ?_) (L := ?_) ?_ 0 ?_; rotate_left; rotate_left; assumption; rfl)
  | (refine Own.atL (h0 := ?_) (L := ?_) ?_ 1 ?_; rotate_left; rotate_left; assumption; rfl)
  | (refine Own.atL (h0 := ?_) (L := ?_) ?_ 2 ?_; rotate_left; rotate_left; assumption; rfl)
  | (refine Own.atL (h0 := ?_) (L := ?_) ?_ 3 ?_; rotate_left; rotate_left; assumption; rfl)
  | (refine Own.atL (h0 := ?_) (L := ?_) ?_ 4 ?_; rotate_left; rotate_left; assumption; rfl)
  | (refine Own.atL (h0 := ?_) (L := ?_) ?_ 5 ?_; rotate_left; rotate_left; assumption; rfl)
  | (refine Own.atL (h0 := ?_) (L := ?_) ?_ 6 ?_; rotate_left; rotate_left; assumption; rfl)
  | (refine Own.atL (h0 := ?_) (L := ?_) ?_ 7 ?_; rotate_left; rotate_left; assumption; rfl)
  | (refine Own.atL (h0 := ?_) (L := ?_) ?_ 8 ?_; rotate_left; rotate_left; assumption; rfl)
  | (refine Own.atL (h0 := ?_) (L := ?_) ?_ 9 ?_; rotate_left; rotate_left; assumption; rfl)
  | (refine Own.getL (h0 := ?_) (L := ?_) ?_ ?_; rotate_left; rotate_left; assumption; assumption))
local macro_rules | `(tactic| walk_at "il") => `(tactic| first
  | (refine Own.isL (h0 := ?_) (L := ?_) (l := ?_) ?_ 0 ?_; rotate_left; rotate_left; rotate_left; assumption; rfl)
  | (refine Own.isL (h0 := ?_) (L := ?_) (l := ?_) ?_ 1 ?_; rotate_left; rotate_left; rotate_left; assumption; rfl)
  | (refine Own.isL (h0 := ?_) (L := ?_) (l := ?_) ?_ 2 ?_; rotate_left; rotate_left; rotate_left; assumption; rfl)
  | (refine Own.isL (h0 := ?_) (L := ?_) (l := ?_) ?_ 3 ?_; rotate_left; rotate_left; rotate_left; assumption; rfl)
  | (refine Own.isL (h0 := ?_) (L := ?_) (l := ?_) ?_ 4 ?_; rotate_left; rotate_left; rotate_left; assumption; rfl)
  | (refine Own.isL (h0 := ?_) (L := ?_) (l := ?_) ?_ 5 ?_; rotate_left; rotate_left; rotate_left; assumption; rfl)
  | (refine Own.isL (h0 := ?_) (L := ?_) (l := ?_) ?_ 6 ?_; rotate_left; rotate_left; rotate_left; assumption; rfl)
  | (refine Own.isL (h0 := ?_) (L := ?_) (l := ?_) ?_ 7 ?_; rotate_left; rotate_left; rotate_left; assumption; rfl)
  | (refine Own.isL (h0 := ?_) (L := ?_) (l := ?_) ?_ 8 ?_; rotate_left; rotate_left; rotate_left; assumption; rfl)
  | (refine Own.isL (h0 := ?_) (L := ?_) (l := ?_) ?_ 9 ?_; rotate_left; rotate_left; rotate_left; assumption; rfl))
local macro_rules | `(tactic| walk_at "bd") => `(tactic| first | assumption | omega | (simp; done) | (simp; omega) | (simp [*]; done) | (simp [*]; omega))
local macro_rules | `(tactic| walk_at "w") => `(tactic| first
  | ((with_reducible refine w_xfK ?_ ?_ ?_); (exact List.mem_cons_self); (decide))
  | with_reducible refine w_eq (isN_xo _) ?_
  | with_reducible refine w_eq (dNeg_int _ _) ?_)
local macro_rules | `(tactic| walk_at "w") => `(tactic| first
  | ((with_reducible refine w_addT ?_ ?_); walk_at "bd")
  | ((with_reducible refine ⟨?_, ?_⟩); (with_reducible (show isListD (.ref _) _ = true)); walk_at "il")
  | with_reducible refine w_tryK ?_
  | with_reducible refine w_raise ?_
  | with_reducible refine w_raise0 ?_
  | with_reducible refine w_isX ?_
  | ((with_reducible refine w_isXK (k := ?_) ?_ ?_); rotate_left; (first | with_reducible exact lkA | (apply lkB; decide +kernel; exact lkA) | (apply lkB; decide +kernel; apply lkB; decide +kernel; exact lkA) | (apply lkB; decide +kernel; apply lkB; decide +kernel; apply lkB; decide +kernel; exact lkA)))
  | with_reducible refine w_xf ?_)
local macro_rules | `(tactic| walk_at "w") => `(tactic| first
  | with_reducible refine w_eq (isi_bool_int _ _) ?_
  | with_reducible refine w_eq (isi_str_int _ _) ?_
  | ((with_reducible refine w_lenLm (α := ?_) (f := ?_) (l := ?_) ?_ ?_); rotate_left; rotate_left; rotate_left; walk_at "gl")
  | ((with_reducible refine w_lenL (l := ?_) ?_ ?_); rotate_left; walk_at "gl")
  | ((with_reducible refine w_iterL (l := ?_) ?_ ?_); rotate_left; walk_at "gl"; dsimp only)
  | ((with_reducible refine w_tupL (l := ?_) ?_ ?_); rotate_left; walk_at "gl")
  | ((with_reducible refine w_ixT (d := ?_) ?_ ?_); rotate_left; (first | with_reducible assumption | rfl))
  | ((with_reducible refine w_ixL (l := ?_) (d := ?_) ?_ ?_ ?_); rotate_left; rotate_left; walk_at "gl"; (first | with_reducible assumption | rfl)))
local macro_rules | `(tactic| walk_at "w") => `(tactic| first
  | with_reducible refine w_chK ?_
  | with_reducible refine w_retN ?_
  | with_reducible refine w_brk ?_
  | with_reducible refine w_cont ?_
  | with_reducible refine w_asgT ?_
  | with_reducible refine w_eq (isi_str_str _ _) ?_
  | with_reducible refine w_eq (isi_int_int _ _) ?_
  | with_reducible refine w_eq (isi_tup_tup _ _) ?_)
local macro_rules | `(tactic| walk_at "w") => `(tactic| first
  | with_reducible refine w_revL ?_
  | with_reducible refine w_listRg1 ?_
  | with_reducible refine w_tindex ?_
  | with_reducible refine w_setIx ?_
  | with_reducible refine w_un ?_
  | with_reducible refine w_rev1 ?_
  | with_reducible refine w_rev2 ?_
  | with_reducible refine w_chain ?_)
local macro_rules | `(tactic| walk_at "w") => `(tactic| first
  | with_reducible refine w_zip ?_
  | with_reducible refine w_ifE ?_
  | with_reducible refine w_andV ?_
  | with_reducible refine w_orV ?_
  | with_reducible refine w_notV ?_
  | with_reducible refine w_andK ?_
  | with_reducible refine w_orK ?_
  | with_reducible refine w_notK ?_)
local macro_rules | `(tactic| walk_at "w") => `(tactic| first
  | with_reducible refine w_eq (iter1_tup _ _) ?_
  | with_reducible refine w_eq (iter1_str _ _) ?_
  | with_reducible refine w_sl ?_
  | with_reducible refine w_no ?_
  | with_reducible refine w_some ?_
  | with_reducible refine w_unI ?_
  | with_reducible refine w_meth ?_
  | with_reducible refine w_isi ?_)
local macro_rules | `(tactic| walk_at "w") => `(tactic| first
  | with_reducible refine w_lst ?_
  | with_reducible refine w_lc ?_
  | with_reducible refine w_for ?_
  | with_reducible refine w_range1 ?_
  | with_reducible refine w_range2 ?_
  | ((with_reducible refine w_dR1 ?_ ?_); (first | decide | omega))
  | ((with_reducible refine w_dR2 ?_ ?_); (first | decide | omega))
  | with_reducible refine w_iter ?_)
local macro_rules | `(tactic| walk_at "w") => `(tactic| first
  | with_reducible refine w_or ?_
  | with_reducible refine br_n ?_
  | with_reducible refine br_tt ?_
  | with_reducible refine br_ff ?_
  | ((with_reducible refine br_dt ?_ ?_); (first | assumption | omega | rfl))
  | ((with_reducible refine br_df ?_ ?_); (first | assumption | omega))
  | with_reducible refine w_tup ?_
  | ((with_reducible refine w_toTup ?_ ?_); exact (by simp)))
local macro_rules | `(tactic| walk_at "w") => `(tactic| first
  | with_reducible refine w_lenTm ?_
  | with_reducible refine w_eq (dLen_tup _ _) ?_
  | with_reducible refine w_eq (dSl_tup _ _ _ _) ?_
  | with_reducible refine w_eq (dMax_ev _ _ _) ?_
  | with_reducible refine w_eq (dMin_ev _ _ _) ?_
  | with_reducible refine w_eq (dAbs_ev _ _) ?_
  | with_reducible refine w_not ?_
  | with_reducible refine w_and ?_)
local macro_rules | `(tactic| walk_at "w") => `(tactic| first
  | with_reducible refine w_eq (dGe_int _ _ _) ?_
  | with_reducible refine w_eq (dNe_int _ _ _) ?_
  | ((with_reducible refine w_mod ?_ ?_); (first | assumption | decide | omega))
  | ((with_reducible refine w_fdiv ?_ ?_); (first | assumption | decide | omega))
  | ((with_reducible refine w_mulS ?_ ?_); (first | decide | omega))
  | ((with_reducible refine w_addS ?_ ?_); (first | assumption | decide | omega))
  | ((with_reducible refine w_lenS ?_ ?_); (first | assumption | decide | omega))
  | ((with_reducible refine w_slS ?_ ?_); (first | assumption | decide | omega)))
local macro_rules | `(tactic| walk_at "w") => `(tactic| first
  | with_reducible refine w_eq (dEq_int _ _ _) ?_
  | with_reducible refine w_eq (dEq_str _ _ _) ?_
  | with_reducible refine w_eq (dNe_strs _ _ _) ?_
  | with_reducible refine w_eq (dEq_bls _ _ _) ?_
  | with_reducible refine w_eq (dNe_bls _ _ _) ?_
  | with_reducible refine w_eq (dLt_int _ _ _) ?_
  | with_reducible refine w_eq (dLe_int _ _ _) ?_
  | with_reducible refine w_eq (dGt_int _ _ _) ?_)
local macro_rules | `(tactic| walk_at "w") => `(tactic| first
  | with_reducible refine w_if ?_
  | with_reducible refine w_B ?_
  | with_reducible refine w_unB ?_
  | with_reducible refine w_ret ?_
  | with_reducible refine w_drop ?_
  | with_reducible refine w_skip ?_
  | with_reducible refine w_eq (dAdd_int _ _ _) ?_
  | with_reducible refine w_eq (dSub_int _ _ _) ?_)
local macro_rules | `(tactic| walk_at "w") => `(tactic| first
  | with_reducible refine w_seq ?_
  | with_reducible refine w_asg ?_
  | with_reducible refine w_cons ?_
  | with_reducible refine w_nil ?_
  | with_reducible refine w_c ?_
  | ((with_reducible refine w_var (d := ?_) ?_ ?_); rotate_left; rfl)
  | with_reducible refine w_bin ?_
  | with_reducible refine w_call ?_)
local macro_rules | `(tactic| walk_at "go") => `(tactic| (repeat (walk_at "w")); try dsimp only [List.set])
local macro_rules | `(tactic| walk_at "fn") => `(tactic| ((refine w_fun ?_); simp only [startD, List.map_cons, List.map_nil, List.reduceReplicate, Nat.reduceSub, List.cons_append, List.nil_append]; walk_at "go"))
section
open PySem L2

/-! ### cells, names, parents -/
def CellP (c : Int) : Prop := Cell c ∧ 0 ≤ c
theorem mem_app {α : Type} {S : α → Prop} {l : List α} {x : α} (h : ∀ a ∈ l, S a) (hx : S x) : ∀ a ∈ l ++ [x], S a := fun a ha => by
  rcases List.mem_append.mp ha with q | q
  · exact h a q
  · rw [List.mem_singleton.mp q]; exact hx
theorem map_app1 {α β : Type} (f : α → β) (l : List α) (x : α) : l.map f ++ [f x] = (l ++ [x]).map f := by simp
/-! names -/
def Ltr (c : Nat) : Prop := 97 ≤ c ∧ c ≤ 122
def Nm (x : Str) : Prop := 1 ≤ x.length ∧ x.length ≤ 8 ∧ ∀ c ∈ x.cps.toList, Ltr c
def Ls (n : Nat) (x : Str) : Prop := x.length = n ∧ ∀ c ∈ x.cps.toList, Ltr c
theorem Ls.app {a b : Nat} {x y : Str} (hx : Ls a x) (hy : Ls b y) : Ls (a + b) (x ++ y) := ⟨by rw [app_len, hx.1, hy.1], fun c hc => by
  rw [app_cps] at hc
  rcases List.mem_append.mp hc with q | q
  · exact hx.2 c q
  · exact hy.2 c q⟩
theorem Ls.nm {n : Nat} {x : Str} (h : Ls n x) (h1 : 1 ≤ n) (h8 : n ≤ 8) : Nm x := ⟨by rw [h.1]; exact h1, by rw [h.1]; exact h8, h.2⟩
theorem w_addLs {a b : Nat} {x y : Str} {h : MH} {Q : D → MH → Prop} {E : XE} (hx : Ls a x) (hy : Ls b y) (c : a + b ≤ 1000) (q : Ls (a + b) (x ++ y) → Q (.str (x ++ y)) h) : Sat (dAdd (.str x) (.str y) h) Q E :=
  w_addS (by rw [hx.1, hy.1]; omega) (q (hx.app hy))
/-! parents -/
def Par (ps : List Int) : Prop := ps[0]? = some 0 ∧ ∀ (k : Nat) p, 0 < k → ps[k]? = some p → 0 ≤ p ∧ p < (k : Int)
theorem Par.app {ps : List Int} {p : Int} (h : Par ps) (hl : 0 < ps.length) (h0 : 0 ≤ p) (h1 : p < (ps.length : Int)) : Par (ps ++ [p]) := ⟨by rw [List.getElem?_append_left hl]; exact h.1, fun k q hk e => by
  rcases Nat.lt_or_ge k ps.length with z | z
  · rw [List.getElem?_append_left z] at e
    exact h.2 k q hk e
  · rw [List.getElem?_append_right z] at e
    have : k - ps.length = 0 := by
      have := (List.getElem?_eq_some_iff.mp e).1
      simp at this; omega
    rw [this] at e
    simp at e
    omega⟩
/-! ### documents -/
inductive Doc where
  | mk (x : Str) (ks : List Doc)
def Doc.nm : Doc → Str
  | .mk x _ => x
def Doc.ks : Doc → List Doc
  | .mk _ l => l
mutual
def Doc.toD : Doc → D
  | .mk x l => .tup [.str x, .tup (Doc.toDs l)]
def Doc.toDs : List Doc → List D
  | [] => []
  | d :: l => d.toD :: Doc.toDs l
end
def Doc.ok : Nat → Doc → Prop
  | 0, _ => False
  | n + 1, .mk x l => Nm x ∧ l.length ≤ 1000 ∧ ∀ k ∈ l, k.ok n
def Doc.at : Doc → List Int → Option Doc
  | d, [] => some d
  | d, k :: r => if 0 ≤ k then match d.ks[k.toNat]? with
    | some c => c.at r
    | none => none else none
theorem at_app : ∀ (d : Doc) (a b : List Int), d.at (a ++ b) = (d.at a).bind fun c => c.at b
  | d, [], b => by simp [Doc.at]
  | d, k :: r, b => by
    rw [List.cons_append, Doc.at, Doc.at]
    split
    · split
      · rename_i c e
        exact at_app c r b
      · rfl
    · rfl
theorem at_one (d : Doc) (k : Int) : d.at [k] = if 0 ≤ k then d.ks[k.toNat]? else none := by
  rw [Doc.at]
  split
  · split
    · rename_i c e; rw [e, Doc.at]
    · rename_i e; rw [e]
  · rfl
/-- the children of the k-th -/
def isKid (pn : Nat → Nat) (k j : Nat) : Bool := decide (0 < j ∧ pn j = k)
def kids (pn : Nat → Nat) (n k : Nat) : List Nat := (List.range n).filter (isKid pn k)
def kidsF (pn : Nat → Nat) (n m k : Nat) : List Nat := (List.range' m (n - m)).filter (isKid pn k)
def cntF (pn : Nat → Nat) (k p : Nat) : Nat := ((List.range k).filter (isKid pn p)).length
def PnOk (pn : Nat → Nat) (n : Nat) : Prop := ∀ j, 0 < j → j < n → pn j < j
theorem kids_mem {pn : Nat → Nat} {n k j : Nat} (h : j ∈ kids pn n k) : j < n ∧ 0 < j ∧ pn j = k := by
  unfold kids at h
  rw [List.mem_filter, List.mem_range] at h
  exact ⟨h.1, of_decide_eq_true h.2⟩
theorem range_cut {k n : Nat} (h : k ≤ n) : List.range n = List.range k ++ List.range' k (n - k) := by
  have e : n = k + (n - k) := by omega
  rw [List.range_eq_range', List.range_eq_range']
  have := List.range'_append_1 (s := 0) (m := k) (n := n - k)
  rw [Nat.zero_add, ← e] at this
  exact this.symm
theorem kid_at {pn : Nat → Nat} {n k : Nat} (h0 : 0 < k) (h1 : k < n) : (kids pn n (pn k))[cntF pn k (pn k)]? = some k := by
  unfold kids cntF
  rw [range_cut (Nat.le_of_lt h1), List.filter_append, List.getElem?_append_right (Nat.le_refl _), Nat.sub_self]
  have e : n - k = (n - (k + 1)) + 1 := by omega
  have t : isKid pn (pn k) k = true := by unfold isKid; simp [h0]
  rw [e, List.range'_succ, List.filter_cons, if_pos t]
  rfl
theorem cnt_le {pn : Nat → Nat} {k p : Nat} : cntF pn k p ≤ k := by
  unfold cntF
  have := List.length_filter_le (isKid pn p) (List.range k)
  simpa using this
theorem kids_len {pn : Nat → Nat} {n k : Nat} : (kids pn n k).length ≤ n := cnt_le
/-- documents by their children -/
def DocsF (pn : Nat → Nat) (n m : Nat) (f : Nat → Doc) : Prop := ∀ j, m ≤ j → j < n → ∃ x, Nm x ∧ f j = .mk x ((kids pn n j).map f)
theorem DocsF.put {pn : Nat → Nat} {n m : Nat} {f : Nat → Doc} (hp : PnOk pn n) (h : DocsF pn n (m + 1) f) {x : Str} (hx : Nm x) : DocsF pn n m (fun i => if i = m then .mk x ((kids pn n m).map f) else f i) := fun j h1 h2 => by
  have key : (kids pn n j).map (fun i => if i = m then .mk x ((kids pn n m).map f) else f i) = (kids pn n j).map f := by
    refine List.map_congr_left fun i hi => ?_
    obtain ⟨a, b, c⟩ := kids_mem hi
    have := hp i b a
    rw [if_neg (by omega)]
  by_cases e : j = m
  · subst e
    rw [key]
    dsimp only
    rw [if_pos rfl]
    exact ⟨x, hx, rfl⟩
  · rw [key]
    dsimp only
    rw [if_neg e]
    exact h j (by omega) h2
theorem DocsF.ok {pn : Nat → Nat} {n : Nat} {f : Nat → Doc} (hp : PnOk pn n) (hn : n ≤ 1000) (h : DocsF pn n 0 f) : ∀ (t j : Nat), n ≤ j + t → j < n → (f j).ok t
  | 0, j, h1, h2 => by omega
  | t + 1, j, h1, h2 => by
    obtain ⟨x, hx, e⟩ := h j (Nat.zero_le _) h2
    rw [e]
    refine ⟨hx, ?_, ?_⟩
    · rw [List.length_map]
      exact Nat.le_trans kids_len hn
    · intro k hk
      obtain ⟨i, hi, rfl⟩ := List.mem_map.mp hk
      obtain ⟨a, b, c⟩ := kids_mem hi
      have := hp i b a
      exact DocsF.ok hp hn h t i (by omega) a
/-- places -/
def PlF (pn : Nat → Nat) (n : Nat) (q : Nat → List Int) : Prop := q 0 = [] ∧ ∀ k, 0 < k → k < n → q k = q (pn k) ++ [(cntF pn k (pn k) : Int)]
theorem PlF.put {pn : Nat → Nat} {n : Nat} {q : Nat → List Int} (hp : PnOk pn (n + 1)) (hn : 0 < n) (h : PlF pn n q) : PlF pn (n + 1) (fun i => if i = n then q (pn n) ++ [(cntF pn n (pn n) : Int)] else q i) := ⟨by dsimp only; rw [if_neg (by omega)]; exact h.1, fun k h0 h1 => by
  dsimp only
  have := hp k h0 h1
  by_cases e : k = n
  · subst e
    rw [if_pos rfl, if_neg (by omega)]
  · rw [if_neg e, if_neg (by omega)]
    exact h.2 k h0 (by omega)⟩
theorem stands {pn : Nat → Nat} {n : Nat} {f : Nat → Doc} {q : Nat → List Int} (hp : PnOk pn n) (hf : DocsF pn n 0 f) (hq : PlF pn n q) : ∀ (m k : Nat), k ≤ m → k < n → (f 0).at (q k) = some (f k)
  | 0, k, h1, h2 => by
    have : k = 0 := by omega
    subst this
    rw [hq.1, Doc.at]
  | m + 1, k, h1, h2 => by
    by_cases h0 : k = 0
    · subst h0
      rw [hq.1, Doc.at]
    · have hk := hp k (by omega) h2
      rw [hq.2 k (by omega) h2, at_app, stands hp hf hq m (pn k) (by omega) (by omega), Option.bind_some, at_one, if_pos (by omega)]
      obtain ⟨x, _, e⟩ := hf (pn k) (Nat.zero_le _) (by omega)
      rw [e]
      show ((kids pn n (pn k)).map f)[((cntF pn k (pn k) : Nat) : Int).toNat]? = some (f k)
      rw [Int.toNat_natCast, List.getElem?_map, kid_at (by omega) h2]
      rfl
end
section
open PySem L2
/-! items, plain -/
inductive It where
  | hole
  | nd (x : Str) (l : List It)
abbrev star : Str := Str.ofString "*"
mutual
def It.toD : It → D
  | .hole => .str star
  | .nd x l => .tup [.str x, .tup (It.toDs l)]
def It.toDs : List It → List D
  | [] => []
  | i :: l => i.toD :: It.toDs l
end
theorem it_toDs : ∀ l : List It, It.toDs l = l.map It.toD
  | [] => rfl
  | i :: l => by rw [It.toDs, it_toDs l, List.map_cons]
theorem it_nd (x : Str) (l : List It) : (It.nd x l).toD = .tup [.str x, .tup (l.map It.toD)] := by rw [It.toD, it_toDs]
mutual
def It.sz (s : Int) : It → Int
  | .hole => s
  | .nd _ l => 1 + It.szs s l
def It.szs (s : Int) : List It → Int
  | [] => 0
  | i :: l => i.sz s + It.szs s l
end
mutual
def It.fl (row : List Doc) : It → List Doc
  | .hole => row
  | .nd x l => [.mk x (It.fls row l)]
def It.fls (row : List Doc) : List It → List Doc
  | [] => []
  | i :: l => i.fl row ++ It.fls row l
end
mutual
def It.hh : It → Bool
  | .hole => true
  | .nd _ l => It.hhs l
def It.hhs : List It → Bool
  | [] => false
  | i :: l => i.hh || It.hhs l
end
mutual
def It.dp : It → Nat
  | .hole => 0
  | .nd _ l => 1 + It.dps l
def It.dps : List It → Nat
  | [] => 0
  | i :: l => max i.dp (It.dps l)
end
mutual
def Doc.ht : Doc → Nat
  | .mk _ l => 1 + Doc.hts l
def Doc.hts : List Doc → Nat
  | [] => 0
  | d :: l => max d.ht (Doc.hts l)
end
mutual
def Doc.ds : Doc → Int
  | .mk _ l => 1 + Doc.dss l
def Doc.dss : List Doc → Int
  | [] => 0
  | d :: l => d.ds + Doc.dss l
end
def Doc.fit : Nat → Doc → Prop
  | 0, _ => False
  | n + 1, .mk _ l => l.length ≤ 5000 ∧ ∀ k ∈ l, k.fit n
/-! turners -/
abbrev TRl := List (Str × List It)
def look : TRl → Str → Option (List It)
  | [], _ => none
  | (y, its) :: r, x => if y = x then some its else look r x
mutual
def tsz (rl : TRl) : Doc → Int
  | .mk x l => match look rl x with
    | none => 1 + tszs rl l
    | some its => It.szs (tszs rl l) its
def tszs (rl : TRl) : List Doc → Int
  | [] => 0
  | d :: l => tsz rl d + tszs rl l
end
mutual
def trw (rl : TRl) : Doc → List Doc
  | .mk x l => match look rl x with
    | none => [.mk x (trws rl l)]
    | some its => It.fls (trws rl l) its
def trws (rl : TRl) : List Doc → List Doc
  | [] => []
  | d :: l => trw rl d ++ trws rl l
end
def RlD (rl : TRl) (w : Nat) : Prop := ∀ p ∈ rl, It.dps p.2 ≤ w
end
end Mi


/-! Dicts with keys (in, get, put, displays of texts); classes of the program: fields, new ones, methods, isinstance; defaults. -/
namespace Mi
open PySem L2 PySem.Spec PyProof.Rows
/-! ### dicts -/
def valD (kvs : List (Key × D)) (k : Key) : Option D := (kvs.find? fun kv => decide (kv.1 = k)).map (·.2)
def putKD (kvs : List (Key × D)) (k : Key) (v : D) : List (Key × D) :=
  if (kvs.any fun kv => decide (kv.1 = k)) = true then kvs.map (fun kv => if kv.1 = k then (kv.1, v) else kv) else kvs ++ [(k, v)]
section
variable {g : G} {H : Hp} {μ : List Addr} {h : MH}
theorem KR.val (k : Key) : ∀ {kv : List (Key × V)} {kvs : List (Key × D)}, KR g H μ kv kvs → (valV kv k = none ∧ valD kvs k = none) ∨ ∃ v d, valV kv k = some v ∧ valD kvs k = some d ∧ VR g H μ v d
  | _, _, .nil => .inl ⟨rfl, rfl⟩
  | _, _, @KR.cons _ _ _ _ k' v d vs ds a b => by
    by_cases e : k' = k
    · refine .inr ⟨v, d, valV_pos e, ?_, a⟩
      simp [valD, List.find?_cons, e]
    · have e2 : valD ((k', d) :: ds) k = valD ds k := by simp [valD, List.find?_cons, e]
      rw [valV_neg (p := (k', v)) e, e2]
      exact KR.val k b
theorem KR.any (k : Key) : ∀ {kv : List (Key × V)} {kvs : List (Key × D)}, KR g H μ kv kvs → (kv.any fun p => decide (p.1 = k)) = kvs.any fun p => decide (p.1 = k)
  | _, _, .nil => rfl
  | _, _, .cons a b => by rw [List.any_cons, List.any_cons, KR.any k b]
theorem KR.repl (k : Key) {y : V} {u : D} (r : VR g H μ y u) : ∀ {kv : List (Key × V)} {kvs : List (Key × D)}, KR g H μ kv kvs → KR g H μ (kv.map fun p => if p.1 = k then (p.1, y) else p) (kvs.map fun p => if p.1 = k then (p.1, u) else p)
  | _, _, .nil => .nil
  | _, _, @KR.cons _ _ _ _ k' v d vs ds a b => by
    rw [List.map_cons, List.map_cons]
    by_cases e : k' = k
    · simp only [e, if_true]
      exact .cons r (KR.repl k r b)
    · simp only [e, if_false]
      exact .cons a (KR.repl k r b)
theorem KR.snoc {κ : Type} {k : κ} {y : V} {u : D} (r : VR g H μ y u) : ∀ {kv : List (κ × V)} {kvs : List (κ × D)}, KR g H μ kv kvs → KR g H μ (kv ++ [(k, y)]) (kvs ++ [(k, u)])
  | _, _, .nil => .cons r .nil
  | _, _, .cons a b => .cons a (KR.snoc r b)
theorem KR.put (k : Key) {y : V} {u : D} (r : VR g H μ y u) {kv : List (Key × V)} {kvs : List (Key × D)} (h : KR g H μ kv kvs) : KR g H μ (putK kv k y) (putKD kvs k u) := by
  unfold putK putKD
  rw [h.any k]
  split
  · exact h.repl k r
  · exact h.snoc r
theorem KR.len {κ : Type} : ∀ {kv : List (κ × V)} {kvs : List (κ × D)}, KR g H μ kv kvs → kv.length = kvs.length
  | _, _, .nil => rfl
  | _, _, .cons _ b => by rw [List.length_cons, List.length_cons, KR.len b]
def getK (h : MH) (x : D) : Option (List (Key × D)) := match x with
  | .ref i => match h[i]? with
    | some (.dK l) => some l
    | _ => none
  | _ => none
theorem getK_of {x : V} {d : D} {l : List (Key × D)} (hr : HR g H μ h) (vx : VR g H μ x d) (e : getK h d = some l) : ∃ i p kv, d = .ref i ∧ x = .ref p ∧ μ[i]? = some p ∧ h[i]? = some (.dK l) ∧ H p = some (.dK kv) ∧ KR g H μ kv l := by
  cases vx with
  | @ref p i hi =>
    simp only [getK] at e
    split at e
    · rename_i l' q
      cases e
      obtain ⟨kv, h1, h2⟩ := hr.ob _ _ _ hi q
      exact ⟨i, p, kv, rfl, rfl, hi, q, h1, h2⟩
    · cases e
  | _ => cases e
end
def dDIn (a b : D) (h : MH) : R D := match keyD a, getK h b with
  | some k, some l => .ok (.bl (valD l k).isSome) h
  | _, _ => .bad
def dDNotIn (a b : D) (h : MH) : R D := match keyD a, getK h b with
  | some k, some l => .ok (.bl (!(valD l k).isSome)) h
  | _, _ => .bad
def dDIx (a b : D) (h : MH) : R D := match getK h a, keyD b with
  | some l, some k => match valD l k with
    | some v => .ok v h
    | none => .bad
  | _, _ => .bad
def dDSet (x y d : D) (h : MH) : R Unit := match x, keyD y, getK h x with
  | .ref i, some k, some l => if l.length < 1000000 then .ok () (h.set i (.dK (putKD l k d))) else .bad
  | _, _, _ => .bad
def mDSet (o i e : ME) : MS := fun ρ h => (e ρ h).out ρ fun d h1 => (o ρ h1).out ρ fun x h2 => (i ρ h2).out ρ fun y h3 => (dDSet x y d h3).out ρ fun _ h4 => .nx ρ h4
def dDLen : List D → MH → R D
  | [x], h => match getK h x with
    | some l => .ok (.int l.length) h
    | none => .bad
  | _, _ => .bad
def rDIn : R2 := fun x y H Q => ∃ a k kvs, x = kV k ∧ y = .ref a ∧ H a = some (.dK kvs) ∧ Q (.bl (valV kvs k).isSome) H
def rDNotIn : R2 := fun x y H Q => ∃ a k kvs, x = kV k ∧ y = .ref a ∧ H a = some (.dK kvs) ∧ Q (.bl (!(valV kvs k).isSome)) H
def rSetD : V → V → V → Hp → (Hp → Prop) → Prop := fun o i v H Q => ∃ a k kvs, o = .ref a ∧ i = kV k ∧ H a = some (.dK kvs) ∧ kvs.length < sizeLine ∧ Q (upd H a (.dK (putK kvs k v)))
section
variable {X : Cx} {g : G} {W : WX}
theorem op_dIn (hu : X.A.units + 65 < cLine) : OpR X (compareOp .In) rDIn := fun pins s σ H x y v u Q I rx ry ⟨a, k, kvs, ex, ey, ea, q⟩ => by
  subst ex ey
  cases ry
  exact d_in (by omega) I (.k ea) rx fun s' I' => ⟨.bl _, H, I', rfl, q⟩
theorem set_dict (hu : X.A.units + 65 < cLine) : PSet X rSetD := fun pins s σ H o i v ov iv u Q I ro ri rv ⟨a, k, kvs, eo, ei, ea, hl, q⟩ => by
  subst eo ei
  cases ro
  exact d_setItem (by omega) I (.k ea hl) ri rv fun s' I' => ⟨_, I', q⟩
theorem val_some {H : Hp} {μ : List Addr} {kv : List (Key × V)} {l : List (Key × D)} (r : KR g H μ kv l) (k : Key) : (valV kv k).isSome = (valD l k).isSome := by
  rcases r.val k with ⟨e1, e2⟩ | ⟨v, d, e1, e2, _⟩ <;> rw [e1, e2] <;> rfl
theorem s2_dIn : S2 g rDIn dDIn := by
  intro H μ h x y a b Q W hr vx vy bk
  unfold dDIn at bk
  split at bk
  · rename_i k l e1 e2
    obtain ⟨i, p, kv, rfl, rfl, hi, q, hp, kr⟩ := getK_of hr vy e2
    exact ⟨p, k, kv, keyD_of vx e1, rfl, hp, by rw [val_some kr]; exact bk.val hr (.bl _)⟩
  · exact bk.elim
variable {o i e : Expr} {mo mi me : ME} {pos p2 : Pos}
theorem sx_dset (hu : X.A.units + 65 < cLine) (ho : PE X o (tE g W mo)) (hi : PE X i (tE g W mi)) (he : PE X e (tE g W me))
    (ha : ∀ v, assign (.Subscript o i p2) X.env v = (do
      let ov ← holding [v] (eval o X.env)
      let iv ← holding [v, ov] (eval i X.env)
      standAt p2
      holding [v, ov, iv] (setItem ov iv v)
      release [v, ov, iv] []) := by intro _; rfl)
    (hs : swapsWithSole [.Subscript o i p2] e pos.line X.env = pure false := by rfl) (hw : swappedStores [.Subscript o i p2] e X.env = pure none := by rfl)
    (h1 : (assignEach [.Subscript o i p2] X.env).map (·.2) = [assign (.Subscript o i p2) X.env] := by rfl) : PS X (.Assign [.Subscript o i p2] e pos) (tS g W (mDSet mo mi me)) :=
  ps_mono (ps_asg he (pg_sub ho hi (set_dict hu) ha) hs hw h1) fun E σ H ⟨ρ, h, μ, sr, hr, bk⟩ =>
    stepS (rel := VR) (ma := me) (E := E) sr hr bk fun v d h1 H1 μ1 m1 sr1 hr1 vd bk1 => stepS (rel := VR) (ma := mo) (E := E) sr1 hr1 bk1 fun x a h2 H2 μ2 m2 sr2 hr2 vx bk2 => stepS (rel := VR) (ma := mi) (E := E) sr2 hr2 bk2 fun y b h3 H3 μ3 m3 sr3 hr3 vy bk3 => by
      have vx := vx.mono m3
      have vd := (vd.mono m2).mono m3
      unfold dDSet at bk3
      split at bk3
      · rename_i k l e1 _ e2
        obtain ⟨c', p, kv, ec, rfl, hi, q, hp, kr⟩ := getK_of hr3 vx e2
        cases ec
        split at bk3
        · rename_i hl
          refine ⟨p, k, kv, rfl, keyD_of vy e1, hp, by rw [kr.len]; exact sz6' hl, ?_⟩
          have m5 : Mon g H3 (upd H3 p (.dK (putK kv k v))) μ3 μ3 := (Saf.dK hp).mon
          exact bk3 _ _ μ3 m5 (sr3.mono m5) (hr3.write (u := .dK (putKD l k d)) hi q rfl (Saf.dK hp) rfl ⟨_, upd_same, (kr.put k vd).mono m5⟩)
        · exact bk3.elim
      · exact bk3.elim
end
/-! ### displays of texts -/
def mergeD (l : List (Str × Str)) (acc : List (Key × D)) : List (Key × D) := match l with
  | [] => acc
  | p :: r => mergeD r (putKD acc (.inr p.1) (.str p.2))
def mDictC (l : List (Str × Str)) : ME := fun _ h => .ok (.ref h.length) (h ++ [.dK (mergeD l [])])
section
variable {X : Cx} {g : G} {W : WX} {pos : Pos}
def trsC (g : G) (W : WX) (l : List (Str × Str)) : List (TE × TE) := l.map fun p => (tE g W (mC (.str p.1)), tE g W (mC (.str p.2)))
end
/-! ### classes of the program -/
def insOf (h : MH) (x : D) : Option (Nat × Str × List (Str × D)) := match x with
  | .ref i => match h[i]? with
    | some (.ins c fs) => some (i, c, fs)
    | _ => none
  | _ => none
def putFD (f : Str) (v : D) : List (Str × D) → List (Str × D)
  | [] => [(f, v)]
  | (g, x) :: r => if g = f then (g, v) :: r else (g, x) :: putFD f v r
def mFld (cs : List Str) (f : Str) (a : ME) : ME := fun ρ h => (a ρ h).bind fun x h1 => match insOf h1 x with
  | some (_, c, fs) => if c ∈ cs then match fs.lookup f with
    | some v => .ok v h1
    | none => .bad else .bad
  | none => .bad
def mSetFld (cs : List Str) (f : Str) (o e : ME) : MS := fun ρ h => (e ρ h).out ρ fun d h1 => (o ρ h1).out ρ fun x h2 => match insOf h2 x with
  | some (i, c, fs) => if c ∈ cs ∧ fs.length < 1000 then .nx ρ (h2.set i (.ins c (putFD f d fs))) else .bad
  | none => .bad
def mNew (c : Str) (F : List D → MH → R D) (r : MA) : ME := fun ρ h => (r ρ h).bind fun xs h1 => (F (.ref h1.length :: xs) (h1 ++ [.ins c []])).bind fun y h2 => match y with
  | .non => .ok (.ref h1.length) h2
  | _ => .bad
abbrev MTab := List (Str × (List D → MH → R D))
def mMethI (m : Str) (tab : MTab) (o : ME) (r : MA) : ME := fun ρ h => (o ρ h).bind fun x h1 => match insOf h1 x with
  | some (_, c, fs) => match tab.lookup c with
    | some F => if fs.lookup m = none then (r ρ h1).bind fun xs h2 => F (x :: xs) h2 else .bad
    | none => .bad
  | none => .bad
def mIsC (tab : List (Str × Bool)) (a : ME) : ME := fun ρ h => (a ρ h).bind fun x h1 => match insOf h1 x with
  | some (_, c, _) => match tab.lookup c with
    | some b => .ok (.bl b) h1
    | none => .bad
  | none => .bad
section
variable {g : G} {H : Hp} {μ : List Addr} {h : MH}
theorem ins_of {x : V} {d : D} {i : Nat} {c : Str} {fs : List (Str × D)} (hr : HR g H μ h) (vx : VR g H μ x d) (e : insOf h d = some (i, c, fs)) :
    ∃ p C dx fv, d = .ref i ∧ x = .ref p ∧ μ[i]? = some p ∧ h[i]? = some (.ins c fs) ∧ H p = some (.ins C dx fv) ∧ g.cm c = some C ∧ KR g H μ fv fs := by
  cases vx with
  | @ref p j hi =>
    simp only [insOf] at e
    split at e
    · rename_i c' fs' q
      cases e
      obtain ⟨C, dx, fv, h1, h2, h3⟩ := hr.ob _ _ _ hi q
      exact ⟨p, C, dx, fv, rfl, rfl, hi, q, h1, h2, h3⟩
    · cases e
  | _ => cases e
theorem KR.lookup (f : Str) : ∀ {fv : List (Str × V)} {fs : List (Str × D)}, KR g H μ fv fs → (fv.lookup f = none ∧ fs.lookup f = none) ∨ ∃ v d, fv.lookup f = some v ∧ fs.lookup f = some d ∧ VR g H μ v d
  | _, _, .nil => .inl ⟨rfl, rfl⟩
  | _, _, @KR.cons _ _ _ _ k v d vs ds a b => by
    rw [List.lookup_cons, List.lookup_cons]
    cases (f == k) with
    | true => exact .inr ⟨v, d, rfl, rfl, a⟩
    | false => exact KR.lookup f b
theorem KR.putF (f : Str) {y : V} {u : D} (r : VR g H μ y u) : ∀ {fv : List (Str × V)} {fs : List (Str × D)}, KR g H μ fv fs → KR g H μ (L2.putF f y fv) (putFD f u fs)
  | _, _, .nil => .cons r .nil
  | _, _, @KR.cons _ _ _ _ k v d vs ds a b => by
    show KR g H μ (if k = f then (k, y) :: vs else (k, v) :: L2.putF f y vs) (if k = f then (k, u) :: ds else (k, d) :: putFD f u ds)
    split
    · exact .cons r b
    · exact .cons a (KR.putF f r b)
end
/-- classes with a field: none of their classes has its name -/
def CT (K : PySem.W.Frag) (f : Str) (cs : List Str) : Prop := ∀ c ∈ cs, ∀ C, cmOf K c = some C → Cls K C ∧ NoAttr K C f
def clsB (K : PySem.W.Frag) (C : Addr) : Bool := PySem.W.plainGet K C Str.empty && (PySem.W.hasDictIn K C && (PySem.W.plainOver K C && decide (PySem.W.findIn K (.ref C) "__setattr__" = some (some (.builtin "object.__setattr__")))))
theorem clsB_ok {K : PySem.W.Frag} {C : Addr} (h : clsB K C = true) : Cls K C := by
  unfold clsB at h
  simp only [Bool.and_eq_true, decide_eq_true_eq] at h
  exact ⟨h.1, h.2.1, h.2.2.1, h.2.2.2⟩
def ctB (K : PySem.W.Frag) (f : Str) (cs : List Str) : Bool := cs.all fun c => match cmOf K c with
  | some C => clsB K C && decide (PySem.W.findIn K (.ref C) f = some none)
  | none => true
theorem ctB_ok {K : PySem.W.Frag} {f : Str} {cs : List Str} (e : ctB K f cs = true) : CT K f cs := fun c hc C q => by
  have z := List.all_eq_true.mp e c hc
  rw [q] at z
  obtain ⟨z1, z2⟩ := Bool.and_eq_true_iff.mp z
  exact ⟨clsB_ok z1, show PySem.W.findIn K (.ref C) f = some none from of_decide_eq_true z2⟩
/-- isinstance of own classes -/
structure ClsI (K : PySem.W.Frag) (C : Addr) : Prop where
  cl : Cls K C
  ha : PySem.W.findIn K (.ref C) "__class__" = some (some (.builtin "object.__class__"))
  hn : PySem.W.specialIn K (.builtin "object.__class__") "__get__" = some (some (.builtin "getset_descriptor.__get__"))
  ht : PySem.W.takesIn K (.builtin "object.__class__") = some true
  hm : PySem.W.mroIn K C (.type "object") = some true
def clsIB (K : PySem.W.Frag) (C : Addr) : Bool := clsB K C && (decide (PySem.W.findIn K (.ref C) "__class__" = some (some (.builtin "object.__class__"))) &&
  (decide (PySem.W.specialIn K (.builtin "object.__class__") "__get__" = some (some (.builtin "getset_descriptor.__get__"))) && (decide (PySem.W.takesIn K (.builtin "object.__class__") = some true) && decide (PySem.W.mroIn K C (.type "object") = some true))))
def IsC (K : PySem.W.Frag) (mg : Str → Option Value) (y : Str) (l : List (Str × Bool)) : Prop := ∃ D, mg y = some (.ref D) ∧ ∀ c b C, l.lookup c = some b → cmOf K c = some C → ClsI K C ∧ PySem.W.kitOne K (.ref C) (.ref D) = some b
def isCB (K : PySem.W.Frag) (y : Str) (l : List (Str × Bool)) : Bool := match cmOf K y with
  | some D => l.all fun p => match cmOf K p.1 with
    | some C => clsIB K C && (PySem.W.kitOne K (.ref C) (.ref D) == some p.2)
    | none => true
  | none => false
/-- a method of a class -/
def MtOf (P : Program) (w : World) (K : PySem.W.Frag) (mg : Str → Option Value) (base : Heap) (c m : Str) (k : Nat) (F : List D → MH → R D) : Prop :=
  ∀ C, cmOf K c = some C → ∃ f fd ps, Cls K C ∧ Meth K C m f ∧ FnOk P w K mg base (L2.CX P w) k f fd ps (spM (gOf w K) F) ∧ Binds K fd ps []
def Mt (P : Program) (w : World) (K : PySem.W.Frag) (mg : Str → Option Value) (base : Heap) (m : Str) (k : Nat) (tab : MTab) : Prop := ∀ c F, tab.lookup c = some F → MtOf P w K mg base c m k F
/-- a class that is made -/
def MkOf (P : Program) (w : World) (K : PySem.W.Frag) (mg : Str → Option Value) (base : Heap) (c : Str) (k : Nat) (F : List D → MH → R D) : Prop :=
  ∃ C f fd ps, cmOf K c = some C ∧ mg c = some (.ref C) ∧ Mk K C f ∧ FnOk P w K mg base (L2.CX P w) k f fd ps (spM (gOf w K) F) ∧ Binds K fd ps []
section
variable {P : Program} {w : World} {K : PySem.W.Frag} {mg : Str → Option Value} {base : Heap} {m : Str} {k : Nat}
theorem mt_nil : Mt P w K mg base m k [] := fun _ _ h => by cases h
theorem mt_cons {c : Str} {F : List D → MH → R D} {tab : MTab} (e : MtOf P w K mg base c m k F) (r : Mt P w K mg base m k tab) : Mt P w K mg base m k ((c, F) :: tab) := fun c' F' h => by
  rw [List.lookup_cons] at h
  cases q : c' == c with
  | true =>
    rw [q] at h
    cases h
    rw [eq_of_beq q]
    exact e
  | false =>
    rw [q] at h
    exact r c' F' h
theorem MtOf.mono {c : Str} {F : List D → MH → R D} {j : Nat} (e : MtOf P w K mg base c m j F) (h : j ≤ k) : MtOf P w K mg base c m k F := fun C hC => by
  obtain ⟨f, fd, ps, h2, h3, h4, h5⟩ := e C hC
  exact ⟨f, fd, ps, h2, h3, h4.mono h, h5⟩
theorem Mt.mono {tab : MTab} {j : Nat} (e : Mt P w K mg base m j tab) (h : j ≤ k) : Mt P w K mg base m k tab := fun c F q => (e c F q).mono h
end
section
variable {X : Cx} {W : WX} {a e o : Expr} {es : List Expr} {ma me mo : ME} {mr : MA} {p p2 pos apos : Pos} {f m : Str} {cs : List Str}
theorem se_fld (T : CT X.K f cs) (ha : PE X a (tE (gOf X.w X.K) W ma)) (hb : attributeBase a f X.env (eval a X.env) = eval a X.env := by rfl) : PE X (.Attribute a f pos) (tE (gOf X.w X.K) W (mFld cs f ma)) :=
  pe_mono (pe_fld ha hb) fun σ H Q ⟨ρ, h, μ, sr, hr, bk⟩ => step (rel := VR) (rel' := VR) (ma := ma) (Q' := Q) sr hr bk fun x d h1 H1 μ1 m1 sr1 hr1 vx bk1 => by
    split at bk1
    · rename_i i c fs e1
      obtain ⟨p, C, dx, fv, rfl, rfl, hi, q, hp, hC, kr⟩ := ins_of hr1 vx e1
      split at bk1
      · rename_i hc
        obtain ⟨c1, c2⟩ := T c hc C hC
        split at bk1
        · rename_i v ev
          rcases kr.lookup f with ⟨_, z⟩ | ⟨v', d', z1, z2, z3⟩
          · rw [ev] at z; cases z
          · rw [ev] at z2
            cases z2
            exact ⟨p, C, dx, fv, v', rfl, hp, c1, c2, z1, bk1.val hr1 z3⟩
        · exact bk1.elim
      · exact bk1.elim
    · exact bk1.elim
theorem sx_setFld (T : CT X.K f cs) (ho : PE X o (tE (gOf X.w X.K) W mo)) (he : PE X e (tE (gOf X.w X.K) W me)) (hs : swapsWith e (some (.Attribute o f p2)) pos.line X.env = pure false := by rfl) :
    PS X (.Assign [.Attribute o f p2] e pos) (tS (gOf X.w X.K) W (mSetFld cs f mo me)) :=
  ps_mono (ps_fld ho he hs) fun E σ H ⟨ρ, h, μ, sr, hr, bk⟩ =>
    stepS (rel := VR) (ma := me) (E := E) sr hr bk fun v d h1 H1 μ1 m1 sr1 hr1 vd bk1 => stepS (rel := VR) (ma := mo) (E := E) sr1 hr1 bk1 fun x a h2 H2 μ2 m2 sr2 hr2 vx bk2 => by
      have vd := vd.mono m2
      split at bk2
      · rename_i i c fs e1
        obtain ⟨p, C, dx, fv, rfl, rfl, hi, q, hp, hC, kr⟩ := ins_of hr2 vx e1
        split at bk2
        · rename_i hc
          obtain ⟨c1, c2⟩ := T c hc.1 C hC
          refine ⟨p, C, dx, fv, rfl, hp, c1, c2, by rw [kr.len]; exact hc.2, ?_⟩
          have m5 : Mon (gOf X.w X.K) H2 (upd H2 p (.ins C dx (L2.putF f v fv))) μ2 μ2 := (Saf.ins hp).mon
          exact bk2 _ _ μ2 m5 (sr2.mono m5) (hr2.write (u := .ins c (putFD f d fs)) hi q rfl (Saf.ins hp) rfl ⟨C, dx, _, upd_same, hC, (kr.putF f vd).mono m5⟩)
        · exact bk2.elim
      · exact bk2.elim
theorem run_makeS {CX : CXT} {k : Nat} {C f : Addr} {fd : FuncData} {ps : List Str} {sp : Sp} {E : XK} {pins : List (Addr × Obj)} {σ : L2.St} {H : Hp} {s : Shared} {Q : VK} {us : List Value} {vs : List V} (M : Mk X.K C f) (F : FnOk X.prog X.w X.K X.mg X.base CX k f fd ps sp)
    (hr : Room (k + 1) X.A) (hb : Binds X.K fd ps []) (hx : PassesAt CX X σ E) (I : Inv X pins σ H s) (r : Vals vs us)
    (h : ∀ x dx, H x = none → H dx = none → dx ≠ x → sp (.ref x :: vs) (upd (upd H dx (.own x)) x (.ins C dx [])) (fun v H2 => v = .non ∧ Q (.ref x) H2) E) :
    wpAny (model X.prog X.w) X.A (call (.ref C) us) (EP X pins σ Q) X.xe s := by
  have hq := h (s.heap.objs.size + 1) s.heap.objs.size (I.hok.fresh (Nat.le_succ _)) (I.hok.fresh (Nat.le_refl _)) (Nat.ne_of_lt (Nat.lt_succ_self _))
  have I2 := Inv.made (C := C) I
  have r2 : Vals (V.ref (s.heap.objs.size + 1) :: vs) (Value.ref (s.heap.objs.size + 1) :: us) := .cons rfl r
  have hl : (Value.ref (s.heap.objs.size + 1) :: us).length = ps.length := by
    have e := r2.length
    rw [F.len _ _ _ _ hq] at e
    exact e.symm
  have b := hb _ (Value.ref (s.heap.objs.size + 1) :: us) I2.kIn (by rw [List.append_nil]; exact hl)
  rw [List.append_nil] at b
  refine wpAny_call (make_map (f := f) I.kIn M.makes M.init (beq_iff_eq.mp M.fn) (codeAny_mono (F.run _ X.stack _ _ ⟨Value.ref (s.heap.objs.size + 1) :: us, []⟩ (Value.ref (s.heap.objs.size + 1) :: us) _ _ E (hr.make C us [])
    (I2.env0.make C us []) b r2 hq) fun r s' hq' => ?_))
  cases r with
  | error e => exact hx pins _ _ e s' I2 hq'
  | ok fl =>
    cases fl with
    | ret u =>
      obtain ⟨v, H', I3, rv, ev, q3⟩ := I2.after hq'
      subst ev
      exact ⟨rv, ⟨V.ref (s.heap.objs.size + 1), H', I3, rfl, q3⟩⟩
    | next => exact False.elim hq'
    | brk => exact False.elim hq'
    | cont => exact False.elim hq'
theorem new_of {g : G} {c : Str} {C : Addr} {F : List D → MH → R D} {H : Hp} {μ : List Addr} {h : MH} {vs : List V} {ds : List D} {Q : VK} {E : XK} (hC : g.cm c = some C) (hr : HR g H μ h) (vd : VRs g H μ vs ds)
    (bk : Bk (VR g) g H μ ((F (.ref h.length :: ds) (h ++ [.ins c []])).bind fun y h2 => match y with | .non => .ok (.ref h.length) h2 | _ => .bad) Q E) (x dx : Addr) (hx : H x = none) (hd : H dx = none) (ne : dx ≠ x) :
    spM g F (.ref x :: vs) (upd (upd H dx (.own x)) x (.ins C dx [])) (fun v H2 => v = .non ∧ Q (.ref x) H2) E := by
  have m1 : Mon g H (upd H dx (.own x)) μ μ := (Saf.fresh hd).mon
  have hr1 : HR g (upd H dx (.own x)) μ h := hr.laid hd
  have hx1 : (upd H dx (.own x)) x = none := by rw [upd_ne (Ne.symm ne)]; exact hx
  have m2 : Mon g (upd H dx (.own x)) (upd (upd H dx (.own x)) x (.ins C dx [])) μ (μ ++ [x]) := mon_push hx1
  have hr2 := hr1.push (u := .ins c []) hx1 (o := .ins C dx []) ⟨C, dx, [], upd_same, hC, .nil⟩
  have ix : (μ ++ [x])[h.length]? = some x := ix_push hr.len
  refine ⟨.ref h.length :: ds, h ++ [.ins c []], μ ++ [x], .cons (.ref ix) (vd.mono (m1.trans m2)), hr2, ?_⟩
  refine Bk.bind (Bk.mono (m1.trans m2) bk) fun y h3 v H3 μ3 _ m3 hr3 vy bk3 => ?_
  cases vy with
  | non => exact ⟨rfl, bk3.val hr3 (.ref (m3.ix ix))⟩
  | _ => exact bk3.elim
theorem se_new {c : Str} {k : Nat} {F : List D → MH → R D} (M : MkOf X.prog X.w X.K X.mg X.base c k F) (hr : Room (k + 1) X.A) (tk : Takes X W) (ha : PA X (e :: es) (tA (gOf X.w X.K) W mr)) (hg : Gl X c := by rfl) (hdb : (c == ("__debug__" : Str)) = false := by decide)
    (he : starEach (e :: es) X.env = (false, eval e X.env) :: starEach es X.env := by rfl) (hpl : (backTo pos (starEach es X.env)).any (·.1) = false := by rfl) : PE X (.Call (.Name c p) (e :: es) [] pos) (tE (gOf X.w X.K) W (mNew c F mr)) := by
  obtain ⟨C, f, fd, ps, hC, hm, M1, F1, b⟩ := M
  refine ⟨fun pins s σ H Q I h => ?_⟩
  refine wpAny_Call_Name_kw (ld_glob I hg hm ?_ hdb)
  obtain ⟨ρ, hh, μ, sr, hr', bk⟩ := h
  have st : tA (gOf X.w X.K) W mr σ H fun vs H1 => ∀ x dx, H1 x = none → H1 dx = none → dx ≠ x → spM (gOf X.w X.K) F (.ref x :: vs) (upd (upd H1 dx (.own x)) x (.ins C dx [])) (fun v H2 => v = .non ∧ Q (.ref x) H2) (WE W σ) :=
    step (rel := VRs) (rel' := VR) (ma := mr) (Q' := Q) sr hr' bk fun vs ds h1 H1 μ1 m1 sr1 hr1 vd bk1 => fun x dx hx hd ne => new_of hC hr1 vd bk1 x dx hx hd ne
  refine PySem.W.callWith_K (h₀ := X.base) I.ok.mod.kin M1.kp (thn (ha.run pos pins s σ H _ I st) fun us s1 ⟨vs, H1, I1, r, q⟩ => ⟨I1.kIn, ?_⟩) he hpl
  exact run_makeS M1 F1 hr b (passAt tk σ) I1 r q
theorem se_meth {k : Nat} {tab : MTab} {pl : Sem Bool} (M : Mt X.prog X.w X.K X.mg X.base m k tab) (hr : Room k X.A) (tk : Takes X W) (ho : PE X o (tE (gOf X.w X.K) W mo)) (ha : PA X (e :: es) (tA (gOf X.w X.K) W mr))
    (hst : starEach (e :: es) X.env = (false, eval e X.env) :: starEach es X.env := by rfl) (hpl : (backTo pos (starEach es X.env)).any (·.1) = false := by rfl)
    (ht : eval (.Call (.Attribute o m apos) (e :: es) [] pos) X.env = (do
      let ov ← eval o X.env
      standAt apos.atName
      let (f, first) ← holding [ov] (getMethod ov m pl)
      callWith pos f first (backTo pos (starEach (e :: es) X.env)) (backToKw pos (keywordEach [] X.env))) := by rfl) :
    PE X (.Call (.Attribute o m apos) (e :: es) [] pos) (tE (gOf X.w X.K) W (mMethI m tab mo mr)) := by
  refine ⟨fun pins s σ H Q I ⟨ρ, h, μ, sr, hr', bk⟩ => ?_⟩
  have st : tE (gOf X.w X.K) W mo σ H fun x H1 => ∃ a C dx fv f fd ps F, x = .ref a ∧ H1 a = some (.ins C dx fv) ∧ Cls X.K C ∧ Meth X.K C m f ∧ FnOk X.prog X.w X.K X.mg X.base (L2.CX X.prog X.w) k f fd ps (spM (gOf X.w X.K) F) ∧ Binds X.K fd ps [] ∧ fv.lookup m = none ∧
      tA (gOf X.w X.K) W mr σ H1 fun vs H2 => spM (gOf X.w X.K) F (.ref a :: vs) H2 Q (WE W σ) :=
    step (rel := VR) (rel' := VR) (ma := mo) (Q' := Q) sr hr' bk fun x d h1 H1 μ1 m1 sr1 hr1 vx bk1 => by
      split at bk1
      · rename_i i c fs e1
        obtain ⟨a, C, dx, fv, rfl, rfl, hi, q, hp, hC, kr⟩ := ins_of hr1 vx e1
        split at bk1
        · rename_i F eF
          obtain ⟨f, fd, ps, h2, h3, h4, h5⟩ := M c F eF C hC
          split at bk1
          · rename_i hl
            refine ⟨a, C, dx, fv, f, fd, ps, F, rfl, hp, h2, h3, h4, h5, ?_, ?_⟩
            · rcases kr.lookup m with ⟨z, _⟩ | ⟨_, _, _, z, _⟩
              · exact z
              · rw [hl] at z; cases z
            · exact step (rel := VRs) (rel' := VR) (ma := mr) (Q' := Q) sr1 hr1 bk1 fun vs ds h2 H2 μ2 m2 sr2 hr2 vd bk2 => ⟨_, h2, μ2, .cons (.ref (m2.ix hi)) vd, hr2, bk2⟩
          · exact bk1.elim
        · exact bk1.elim
      · exact bk1.elim
  refine PySem.W.methodCall_KW (pl := pl) (thn (ho.run pins s σ H _ I st) fun u s1 ⟨x, H1, I1, rx, a, C, dx, fv, f, fd, ps, F, ex, ea, c, hm, F1, b, l, q⟩ => ?_) ht
  subst ex
  obtain rfl : u = Value.ref a := rx
  refine getmeth_ok I1 ea c hm l ?_
  refine PySem.W.callWith_K (first := [.ref a]) (h₀ := X.base) I.ok.mod.kin hm.kp (thn (ha.run pos pins s1 σ H1 _ I1 q) fun us s2 ⟨vs, H2, I2, r, q2⟩ => ⟨I2.kIn, ?_⟩) hst hpl
  exact run_fnS (E := WE W) (us := .ref a :: us) (vs := .ref a :: vs) F1 hr b (passAt tk σ) I2 (.cons rfl r) q2
theorem se_meth0 {k : Nat} {tab : MTab} {pl : Sem Bool} (M : Mt X.prog X.w X.K X.mg X.base m k tab) (hr : Room k X.A) (tk : Takes X W) (ho : PE X o (tE (gOf X.w X.K) W mo))
    (ht : eval (.Call (.Attribute o m apos) [] [] pos) X.env = (do
      let ov ← eval o X.env
      standAt apos.atName
      let (f, first) ← holding [ov] (getMethod ov m pl)
      callWith pos f first (backTo pos (starEach [] X.env)) (backToKw pos (keywordEach [] X.env))) := by rfl) :
    PE X (.Call (.Attribute o m apos) [] [] pos) (tE (gOf X.w X.K) W (mMethI m tab mo mNil)) := by
  refine ⟨fun pins s σ H Q I ⟨ρ, h, μ, sr, hr', bk⟩ => ?_⟩
  have st : tE (gOf X.w X.K) W mo σ H fun x H1 => ∃ a C dx fv f fd ps F, x = .ref a ∧ H1 a = some (.ins C dx fv) ∧ Cls X.K C ∧ Meth X.K C m f ∧ FnOk X.prog X.w X.K X.mg X.base (L2.CX X.prog X.w) k f fd ps (spM (gOf X.w X.K) F) ∧ Binds X.K fd ps [] ∧ fv.lookup m = none ∧
      spM (gOf X.w X.K) F [.ref a] H1 Q (WE W σ) :=
    step (rel := VR) (rel' := VR) (ma := mo) (Q' := Q) sr hr' bk fun x d h1 H1 μ1 m1 sr1 hr1 vx bk1 => by
      split at bk1
      · rename_i i c fs e1
        obtain ⟨a, C, dx, fv, rfl, rfl, hi, q, hp, hC, kr⟩ := ins_of hr1 vx e1
        split at bk1
        · rename_i F eF
          obtain ⟨f, fd, ps, h2, h3, h4, h5⟩ := M c F eF C hC
          split at bk1
          · rename_i hl
            refine ⟨a, C, dx, fv, f, fd, ps, F, rfl, hp, h2, h3, h4, h5, ?_, ?_⟩
            · rcases kr.lookup m with ⟨z, _⟩ | ⟨_, _, _, z, _⟩
              · exact z
              · rw [hl] at z; cases z
            · exact ⟨_, h1, μ1, .cons (.ref hi) .nil, hr1, bk1⟩
          · exact bk1.elim
        · exact bk1.elim
      · exact bk1.elim
  refine PySem.W.methodCall_KW (pl := pl) (thn (ho.run pins s σ H _ I st) fun u s1 ⟨x, H1, I1, rx, a, C, dx, fv, f, fd, ps, F, ex, ea, c, hm, F1, b, l, q⟩ => ?_) ht
  subst ex
  obtain rfl : u = Value.ref a := rx
  refine getmeth_ok I1 ea c hm l ?_
  exact PySem.W.callWith_K0 (first := [.ref a]) I1.kIn hm.kp (run_fnS (E := WE W) (us := [.ref a]) (vs := [.ref a]) F1 hr b (passAt tk σ) I1 (.cons rfl .nil) q)
end
end Mi

/-! Defs of classes by their texts; defs with defaults. -/
namespace Mi
open PySem L2 PySem.Spec PyProof.Rows
/-- a method as it stands -/
def Dm (K : PySem.W.Frag) (c m qual : Str) (st : Stmt) (ps : List Str) : Prop := ∃ C f fd, cmOf K c = some C ∧ Cls K C ∧ Meth K C m f ∧ Fun K m qual st f fd ∧ Binds K fd ps []
/-- an __init__ as it stands -/
def Di (K : PySem.W.Frag) (mg : Str → Option Value) (c qual : Str) (st : Stmt) (ps : List Str) : Prop := ∃ C f fd, cmOf K c = some C ∧ mg c = some (.ref C) ∧ Mk K C f ∧ Fun K "__init__" qual st f fd ∧ Binds K fd ps []
section
variable {P : Program} {w : World} {K : PySem.W.Frag} {mg : Str → Option Value} {base : Heap} {h : Heap}
theorem dm_mk {c m qual : Str} {st : Stmt} {ps : List Str} {C f : Addr} {oc : Value} {od an : Option Addr} {osl : Array (Option Value)} {kV doc pm cdv ct : Value}
    (a : PySem.W.nsIn K mainGlobals c = some (some (.ref C))) (hc : clsB K C = true) (hf : PySem.W.findIn K (.ref C) m = some (some (.ref f))) (hn : PySem.W.isFn K (.ref f) = true)
    (l : K.lookup f = some ⟨oc, od, .func (PySem.W.fnOf m qual (defArgs st) (defBody st) (defScope st) .none kV doc pm an cdv ct), osl⟩)
    (e : PySem.W.codeIn K cdv qual = true) (k : PySem.W.keepIn K (.ref f) = true)
    (hb : ∀ (kV doc pm : Value) (an : Option Addr) (cdv ct : Value) (us : List Value), us.length = ps.length → bindArgs (PySem.W.fnOf m qual (defArgs st) (defBody st) (defScope st) .none kV doc pm an cdv ct) ⟨us, []⟩ = pure (ps.zip us)) : Dm K c m qual st ps := by
  have F := fun_mk (st := st) l e k
  exact ⟨C, f, _, by unfold cmOf; rw [a], clsB_ok hc, ⟨hf, hn, k⟩, F, F.binds hb⟩
theorem di_mk {c qual : Str} {st : Stmt} {ps : List Str} {C f : Addr} {oc : Value} {od an : Option Addr} {osl : Array (Option Value)} {kV doc pm cdv ct : Value} (X : K.In h) (G : h.Ns mainGlobals mg)
    (a : PySem.W.nsIn K mainGlobals c = some (some (.ref C))) (hm : PySem.W.makesIn K C = true) (hf : PySem.W.findIn K (.ref C) "__init__" = some (some (.ref f))) (hn : PySem.W.isFn K (.ref f) = true) (hk : PySem.W.keepIn K (.ref C) = true)
    (l : K.lookup f = some ⟨oc, od, .func (PySem.W.fnOf "__init__" qual (defArgs st) (defBody st) (defScope st) .none kV doc pm an cdv ct), osl⟩)
    (e : PySem.W.codeIn K cdv qual = true) (k : PySem.W.keepIn K (.ref f) = true)
    (hb : ∀ (kV doc pm : Value) (an : Option Addr) (cdv ct : Value) (us : List Value), us.length = ps.length → bindArgs (PySem.W.fnOf "__init__" qual (defArgs st) (defBody st) (defScope st) .none kV doc pm an cdv ct) ⟨us, []⟩ = pure (ps.zip us)) : Di K mg c qual st ps := by
  have F := fun_mk (st := st) l e k
  exact ⟨C, f, _, by unfold cmOf; rw [a], PySem.W.mg_of X G a, ⟨hm, hf, hn, hk⟩, F, F.binds hb⟩
theorem mtof_mk {c m qual : Str} {st : Stmt} {N ps : List Str} {k : Nat} {body : MS} (d : Dm K c m qual st ps) (S : FnScope N ps (defScope st))
    (hb : ∀ (f : Addr) (cdv : Value) (A : Around) (outer : List Env) (s : Shared) (H : Hp) (E : XK), Room k (A.deeper (PyProof.Rows.envOfC qual (defScope st) s.heap.objs.size f cdv)) →
      PSs (cxOf (L2.CX P w) P w K mg base N qual (defScope st) f cdv A outer s H E) (defBody st) (tS (gOf w K) (fun c d _ H' => E c d H') body)) : MtOf P w K mg base c m (k + 1) (mFun ps.length N.length body) := by
  obtain ⟨C, f, fd, h1, h2, h3, F, b⟩ := d
  intro C' h1'
  rw [h1] at h1'
  cases h1'
  exact ⟨f, fd, ps, h2, h3, fn_mk F S (hb f), b⟩
theorem mkof_mk {c qual : Str} {st : Stmt} {N ps : List Str} {k : Nat} {body : MS} (d : Di K mg c qual st ps) (S : FnScope N ps (defScope st))
    (hb : ∀ (f : Addr) (cdv : Value) (A : Around) (outer : List Env) (s : Shared) (H : Hp) (E : XK), Room k (A.deeper (PyProof.Rows.envOfC qual (defScope st) s.heap.objs.size f cdv)) →
      PSs (cxOf (L2.CX P w) P w K mg base N qual (defScope st) f cdv A outer s H E) (defBody st) (tS (gOf w K) (fun c d _ H' => E c d H') body)) : MkOf P w K mg base c (k + 1) (mFun ps.length N.length body) := by
  obtain ⟨C, f, fd, h1, h2, h3, F, b⟩ := d
  exact ⟨C, f, fd, ps, h1, h2, h3, fn_mk F S (hb f), b⟩
theorem MkOf.mono {c : Str} {F : List D → MH → R D} {j k : Nat} (e : MkOf P w K mg base c j F) (h : j ≤ k) : MkOf P w K mg base c k F := by
  obtain ⟨C, f, fd, ps, h1, h2, h3, h4, h5⟩ := e
  exact ⟨C, f, fd, ps, h1, h2, h3, h4.mono h, h5⟩
end
section
variable {P : Program} {w : World} {K : PySem.W.Frag} {mg : Str → Option Value} {base : Heap}
theorem mtof_none {c m qual : Str} {st : Stmt} {ps : List Str} {k : Nat} {F : List D → MH → R D} (d : Dm K c m qual st ps) (hF : ∀ ds h, F ds h = .bad) : MtOf P w K mg base c m k F := by
  obtain ⟨C, f, fd, h1, h2, h3, _, b⟩ := d
  intro C' h1'
  rw [h1] at h1'
  cases h1'
  exact ⟨f, fd, ps, h2, h3, fn_none hF, b⟩
end
/-! ### defaults -/
def vOf : D → V
  | .non => .non | .bl b => .bl b | .int i => .int i | .str x => .str x | _ => .non
def DfD (K : PySem.W.Frag) (mg : Str → Option Value) (x : Str) (st : Stmt) (ps : List Str) (ds : List D) : Prop := ∃ f fd, FunD K x x (defArgs st) (defBody st) (defScope st) (ds.map vOf) [] f fd ∧ mg x = some (.ref f) ∧ ∀ j, j ≤ ds.length → ∃ uds, Vals ((ds.map vOf).drop j) uds ∧ Binds K fd ps uds
def CalD (P : Program) (w : World) (K : PySem.W.Frag) (mg : Str → Option Value) (base : Heap) (x : Str) (k : Nat) (F : List D → MH → R D) (ds : List D) : Prop :=
  ∃ f fd ps, FnOk P w K mg base (L2.CX P w) k f fd ps (spM (gOf w K) F) ∧ mg x = some (.ref f) ∧ PySem.W.keepIn K (.ref f) = true ∧ ∀ j, j ≤ ds.length → ∃ uds, Vals ((ds.map vOf).drop j) uds ∧ Binds K fd ps uds
def mCallD (F : List D → MH → R D) (ds : List D) (r : MA) : ME := fun ρ h => (r ρ h).bind fun xs h1 => F (xs ++ ds) h1
section
variable {P : Program} {w : World} {K : PySem.W.Frag} {mg : Str → Option Value} {base : Heap}
end
section
variable {X : Cx} {W : WX} {e : Expr} {es : List Expr} {mr : MA} {p pos : Pos}
end
end Mi

/-! The calculus for classes, dicts, defaults; cells of one's own of any kind. -/
namespace Mi
open PySem L2
/-! ### cells of any kind -/
abbrev CL := List (Nat × MO)
structure Cel (h0 h : MH) (L : CL) : Prop where
  pre : h0 <+: h
  cell : ∀ p ∈ L, h0.length ≤ p.1 ∧ h[p.1]? = some p.2
  nd : (L.map (·.1)).Nodup
section
variable {h0 h h' h1 : MH} {L M : CL} {i : Nat} {l l' : MO}
theorem Cel.nil (h : MH) : Cel h h [] := ⟨List.prefix_rfl, fun p hp => by simp at hp, List.nodup_nil⟩
theorem Cel.ext (o : Cel h0 h L) (p : h <+: h') : Cel h0 h' L := ⟨o.pre.trans p, fun q hq => ⟨(o.cell q hq).1, pre_get p (o.cell q hq).2⟩, o.nd⟩
theorem Cel.lt (o : Cel h0 h L) {p : Nat × MO} (hp : p ∈ L) : p.1 < h.length := (List.getElem?_eq_some_iff.mp (o.cell p hp).2).1
theorem Cel.add (o : Cel h0 h L) (hi : h0.length ≤ i) (e : h[i]? = some l) (n : ∀ p ∈ L, p.1 ≠ i) : Cel h0 h ((i, l) :: L) :=
  ⟨o.pre, fun q hq => by
    rcases List.mem_cons.mp hq with rfl | hq
    · exact ⟨hi, e⟩
    · exact o.cell q hq, List.nodup_cons.mpr ⟨fun hm => by
      obtain ⟨p, hp, rfl⟩ := List.mem_map.mp hm
      exact n p hp rfl, o.nd⟩⟩
theorem Cel.alloc (o : Cel h0 h L) (x : MO) : Cel h0 (h ++ [x]) ((h.length, x) :: L) :=
  (o.ext (List.prefix_append _ _)).add (o.pre.length_le) (by simp) fun p hp => Nat.ne_of_lt (o.lt hp)
theorem Cel.at (o : Cel h0 h L) (n : Nat) (e : L[n]? = some (i, l)) : h[i]? = some l := (o.cell _ (List.mem_of_getElem? e)).2
theorem Cel.atL {l : List D} (o : Cel h0 h L) (n : Nat) (e : L[n]? = some (i, .lst l)) : getL h i = some l := getL_of (o.at n e)
theorem Cel.isL {l : List D} (o : Cel h0 h L) (n : Nat) (e : L[n]? = some (i, .lst l)) : isListD (.ref i) h = true := by rw [isListD_ref, o.atL n e]; rfl
theorem Cel.setAt (o : Cel h0 h L) (n : Nat) (e : L[n]? = some (i, l)) (l' : MO) : Cel h0 (h.set i l') (L.set n (i, l')) := by
  have hn : n < L.length := (List.getElem?_eq_some_iff.mp e).1
  have en : L[n] = (i, l) := (List.getElem?_eq_some_iff.mp e).2
  have hi : i < h.length := o.lt (List.mem_of_getElem? e)
  have h0i : h0.length ≤ i := (o.cell _ (List.mem_of_getElem? e)).1
  have em : (L.set n (i, l')).map (·.1) = L.map (·.1) := by
    rw [List.map_set]
    refine List.ext_getElem (by simp) fun k h1 h2 => ?_
    rw [List.getElem_set]
    split
    · rename_i q
      subst q
      rw [List.getElem_map, en]
    · rfl
  refine ⟨?_, fun q hq => ?_, by rw [em]; exact o.nd⟩
  · obtain ⟨t, rfl⟩ := o.pre
    rw [List.set_append_right _ _ h0i]
    exact List.prefix_append _ _
  · obtain ⟨k, hk, e2⟩ := List.mem_iff_getElem.mp hq
    rw [List.getElem_set] at e2
    split at e2
    · subst e2
      exact ⟨h0i, by simp [hi]⟩
    · rename_i hne
      have hk' : k < L.length := by simpa using hk
      have hm : q ∈ L := e2 ▸ List.getElem_mem hk'
      refine ⟨(o.cell q hm).1, ?_⟩
      rw [List.getElem?_set_ne]
      · exact (o.cell q hm).2
      · intro z
        have h1 : (L.map (·.1))[n]'(by simpa using hn) = (L.map (·.1))[k]'(by simpa using hk') := by
          rw [List.getElem_map, List.getElem_map, en, e2]
          exact z
        exact hne ((List.getElem_inj o.nd).mp h1)
theorem Cel.trans (o : Cel h0 h L) (o' : Cel h h' M) : Cel h0 h' (M ++ L) := by
  have o2 := o.ext o'.pre
  refine ⟨o2.pre, fun q hq => ?_, ?_⟩
  · rcases List.mem_append.mp hq with hq | hq
    · exact ⟨Nat.le_trans o.pre.length_le (o'.cell q hq).1, (o'.cell q hq).2⟩
    · exact o2.cell q hq
  · rw [List.map_append, List.nodup_append]
    refine ⟨o'.nd, o.nd, fun a ha b hb => ?_⟩
    obtain ⟨p, hp, rfl⟩ := List.mem_map.mp ha
    obtain ⟨q, hq, rfl⟩ := List.mem_map.mp hb
    have h1 := (o'.cell p hp).1
    have h2 := o.lt hq
    omega
theorem Cel.sub (o : Cel h0 h L) (s : M.Sublist L) : Cel h0 h M := ⟨o.pre, fun p hp => o.cell p (s.subset hp), (s.map _).nodup o.nd⟩
theorem Cel.tail {p : Nat × MO} (o : Cel h0 h (p :: L)) : Cel h0 h L := o.sub (List.sublist_cons_self _ _)
theorem Cel.none (o : Cel h0 h L) : Cel h0 h [] := o.sub (List.nil_sublist _)
theorem Own.cel {L : LL} (o : Own h0 h L) : Cel h0 h (L.map fun p => (p.1, .lst p.2)) := ⟨o.pre, fun p hp => by
  obtain ⟨q, hq, rfl⟩ := List.mem_map.mp hp
  exact o.cell q hq, by rw [List.map_map]; exact o.nd⟩
/-! ### rules -/
variable {Q : D → MH → Prop} {E : XE} {a b o : ME} {r : MA} {ρ : Slots} {N : SP} {T : D → MH → Prop} {B C : SP} {X : SX}
theorem c_dict0 (o : Cel h0 h L) (q : ∀ i h', Cel h0 h' ((i, .dK []) :: L) → Q (.ref i) h') : Sat (mDict0 ρ h) Q E := w_dict0 (q _ _ (o.alloc _))
def fldK (cs : List Str) (f : Str) (x : D) (h1 : MH) : R D := match insOf h1 x with
  | some (_, c, fs) => if c ∈ cs then match fs.lookup f with
    | some v => .ok v h1
    | none => .bad else .bad
  | none => .bad
theorem w_fld {cs : List Str} {f : Str} (q : Sat (a ρ h) (fun x h1 => Sat (fldK cs f x h1) Q E) E) : Sat (mFld cs f a ρ h) Q E := Sat.bnd q
theorem insOf_of {c : Str} {fs : List (Str × D)} (e : h[i]? = some (.ins c fs)) : insOf h (.ref i) = some (i, c, fs) := by simp only [insOf, e]
theorem w_fldK {cs : List Str} {f c : Str} {fs : List (Str × D)} {v : D} (e : h[i]? = some (.ins c fs)) (hc : c ∈ cs) (hf : fs.lookup f = some v) (q : Q v h) : Sat (fldK cs f (.ref i) h) Q E := w_eq (by unfold fldK; rw [insOf_of e]; simp only [hc, if_true, hf]) q
def setFldK (cs : List Str) (f : Str) (d x : D) (ρ : Slots) (h2 : MH) : Out := match insOf h2 x with
  | some (i, c, fs) => if c ∈ cs ∧ fs.length < 1000 then .nx ρ (h2.set i (.ins c (putFD f d fs))) else .bad
  | none => .bad
theorem w_setFld {cs : List Str} {f : Str} (q : Sat (b ρ h) (fun d h1 => Sat (a ρ h1) (fun x h2 => OS (setFldK cs f d x ρ h2) N T B C X) fun x fs h => X x fs ρ h) fun x fs h => X x fs ρ h) : OS (mSetFld cs f a b ρ h) N T B C X :=
  Sat.ot (q.monoE (fun _ _ z => Sat.ot z) fun _ _ _ z => z)
theorem w_setFldK {cs : List Str} {f c : Str} {fs : List (Str × D)} {d : D} (e : h[i]? = some (.ins c fs)) (hc : c ∈ cs) (hl : fs.length < 1000) (q : N ρ (h.set i (.ins c (putFD f d fs)))) : OS (setFldK cs f d (.ref i) ρ h) N T B C X := by
  unfold setFldK
  rw [insOf_of e]
  simp only
  rw [if_pos ⟨hc, hl⟩]
  exact w_nx q
theorem w_new {c : Str} {F : List D → MH → R D} (q : Sat (r ρ h) (fun xs h1 => Sat (F (.ref h1.length :: xs) (h1 ++ [.ins c []])) (fun y h2 => y = .non ∧ Q (.ref h1.length) h2) E) E) : Sat (mNew c F r ρ h) Q E :=
  Sat.bnd (q.monoE (fun xs h1 z => Sat.bnd (z.monoE (fun y h2 z => by obtain ⟨rfl, z⟩ := z; exact w_ok z) fun _ _ _ z => z)) fun _ _ _ z => z)
def methK (m : Str) (tab : MTab) (r : MA) (ρ : Slots) (x : D) (h1 : MH) : R D := match insOf h1 x with
  | some (_, c, fs) => match tab.lookup c with
    | some F => if fs.lookup m = none then (r ρ h1).bind fun xs h2 => F (x :: xs) h2 else .bad
    | none => .bad
  | none => .bad
theorem w_methI {m : Str} {tab : MTab} (q : Sat (a ρ h) (fun x h1 => Sat (methK m tab r ρ x h1) Q E) E) : Sat (mMethI m tab a r ρ h) Q E := Sat.bnd q
theorem w_methK {m c : Str} {tab : MTab} {fs : List (Str × D)} {F : List D → MH → R D} (e : h[i]? = some (.ins c fs)) (hF : tab.lookup c = some F) (hl : fs.lookup m = none) (q : Sat (r ρ h) (fun xs h2 => Sat (F (.ref i :: xs) h2) Q E) E) : Sat (methK m tab r ρ (.ref i) h) Q E := by
  unfold methK
  rw [insOf_of e]
  simp only [hF]
  rw [if_pos hl]
  exact Sat.bnd q
def isCK (tab : List (Str × Bool)) (x : D) (h1 : MH) : R D := match insOf h1 x with
  | some (_, c, _) => match tab.lookup c with
    | some b => .ok (.bl b) h1
    | none => .bad
  | none => .bad
theorem w_isC {tab : List (Str × Bool)} (q : Sat (a ρ h) (fun x h1 => Sat (isCK tab x h1) Q E) E) : Sat (mIsC tab a ρ h) Q E := Sat.bnd q
theorem w_isCK {tab : List (Str × Bool)} {c : Str} {fs : List (Str × D)} {k : Bool} (e : h[i]? = some (.ins c fs)) (hk : tab.lookup c = some k) (q : Q (.bl k) h) : Sat (isCK tab (.ref i) h) Q E := w_eq (by unfold isCK; rw [insOf_of e]; simp only [hk]) q
theorem w_callD {F : List D → MH → R D} {ds : List D} (q : Sat (r ρ h) (fun xs h1 => Sat (F (xs ++ ds) h1) Q E) E) : Sat (mCallD F ds r ρ h) Q E := Sat.bnd q
theorem getK_ref {l : List (Key × D)} (e : h[i]? = some (.dK l)) : getK h (.ref i) = some l := by simp only [getK, e]
theorem w_dIn {l : List (Key × D)} {x : D} {k : Key} (hx : keyD x = some k) (e : h[i]? = some (.dK l)) (q : Q (.bl (valD l k).isSome) h) : Sat (dDIn x (.ref i) h) Q E := w_eq (by unfold dDIn; rw [hx, getK_ref e]) q
theorem w_mDSet (q : Sat (b ρ h) (fun d h1 => Sat (a ρ h1) (fun x h2 => Sat (o ρ h2) (fun y h3 => Sat (dDSet x y d h3) (fun _ h4 => N ρ h4) fun x fs h => X x fs ρ h) fun x fs h => X x fs ρ h) fun x fs h => X x fs ρ h) fun x fs h => X x fs ρ h) : OS (mDSet a o b ρ h) N T B C X :=
  Sat.ot (q.monoE (fun _ _ z => Sat.ot (z.monoE (fun _ _ z => Sat.ot (z.monoE (fun _ _ z => Sat.ot (z.monoE (fun _ _ z => w_nx z) fun _ _ _ z => z)) fun _ _ _ z => z)) fun _ _ _ z => z)) fun _ _ _ z => z)
theorem w_dSet {QU : Unit → MH → Prop} {l : List (Key × D)} {x d : D} {k : Key} (hx : keyD x = some k) (e : h[i]? = some (.dK l)) (c : l.length < 1000000) (q : QU () (h.set i (.dK (putKD l k d)))) : Sat (dDSet (.ref i) x d h) QU E := w_eq (by unfold dDSet; rw [hx, getK_ref e]; simp only [c, if_true]) q
theorem c_dSet {QU : Unit → MH → Prop} {l : List (Key × D)} {x d : D} {k : Key} (hx : keyD x = some k) (o : Cel h0 h L) (n : Nat) (e : L[n]? = some (i, .dK l)) (c : l.length < 1000000) (q : ∀ h', Cel h0 h' (L.set n (i, .dK (putKD l k d))) → QU () h') : Sat (dDSet (.ref i) x d h) QU E :=
  w_dSet hx (o.at n e) c (q _ (o.setAt n e _))
theorem mkA {x : Str} {k : List D → MH → R D} {l : MTab} : List.lookup x ((x, k) :: l) = some k := by simp [List.lookup]
theorem mkB {x y : Str} {b : List D → MH → R D} {l : MTab} {r : Option (List D → MH → R D)} (h : (x == y) = false) (q : List.lookup x l = r) : List.lookup x ((y, b) :: l) = r := by rw [List.lookup_cons, h]; exact q
theorem fkA {x : Str} {k : D} {l : List (Str × D)} : List.lookup x ((x, k) :: l) = some k := by simp [List.lookup]
theorem fkB {x y : Str} {b : D} {l : List (Str × D)} {r : Option D} (h : (x == y) = false) (q : List.lookup x l = r) : List.lookup x ((y, b) :: l) = r := by rw [List.lookup_cons, h]; exact q
theorem fkN {x : Str} : List.lookup x ([] : List (Str × D)) = none := rfl
theorem nN_non (h : MH) : dNotN .non .non h = .ok (.bl false) h := by rw [dNotN_ev]; rfl
theorem nN_int (i : Int) (h : MH) : dNotN (.int i) .non h = .ok (.bl true) h := by rw [dNotN_ev]; rfl
theorem nN_tup (l : List D) (h : MH) : dNotN (.tup l) .non h = .ok (.bl true) h := by rw [dNotN_ev]; rfl
theorem iN_tup (l : List D) (h : MH) : dIsN (.tup l) .non h = .ok (.bl false) h := by rw [dIsN_ev]; rfl
theorem iN_non (h : MH) : dIsN .non .non h = .ok (.bl true) h := by rw [dIsN_ev]; rfl
theorem iN_int (i : Int) (h : MH) : dIsN (.int i) .non h = .ok (.bl false) h := by rw [dIsN_ev]; rfl
theorem nN_ref (i : Nat) (h : MH) : dNotN (.ref i) .non h = .ok (.bl true) h := by unfold dNotN; simp
theorem iN_ref (i : Nat) (h : MH) : dIsN (.ref i) .non h = .ok (.bl false) h := by unfold dIsN; simp
end
end Mi
namespace Mi
open PySem L2
def m_One_told_38426 : List D → MH → R D := mFun 1 1
 (mRet (mTup (mCons (mC (.str (Str.ofString "one"))) (mCons (mFld [(Str.ofString "One")] (Str.ofString "form") (mVar 0)) (mNil)))))
def m_Chain_told_5991d (S : Nat → List D → MH → R D) : List D → MH → R D := mFun 1 1
 (mRet (mTup (mCons (mC (.str (Str.ofString "chain"))) (mCons (mCall (S 4) (mCons (mFld [(Str.ofString "Chain"), (Str.ofString "Choice"), (Str.ofString "Mixed")] (Str.ofString "parts") (mVar 0)) (mNil))) (mNil)))))
def m_Choice_told_15b0d (S : Nat → List D → MH → R D) : List D → MH → R D := mFun 1 1
 (mRet (mTup (mCons (mC (.str (Str.ofString "choice"))) (mCons (mCall (S 4) (mCons (mFld [(Str.ofString "Chain"), (Str.ofString "Choice"), (Str.ofString "Mixed")] (Str.ofString "parts") (mVar 0)) (mNil))) (mNil)))))
def m_Mixed_told_4747f (S : Nat → List D → MH → R D) : List D → MH → R D := mFun 1 1
 (mRet (mTup (mCons (mC (.str (Str.ofString "mixed"))) (mCons (mCall (S 4) (mCons (mFld [(Str.ofString "Chain"), (Str.ofString "Choice"), (Str.ofString "Mixed")] (Str.ofString "parts") (mVar 0)) (mNil))) (mNil)))))
def m_Times_told_c3621 (S : Nat → List D → MH → R D) : List D → MH → R D := mFun 1 2
 (mSeq (mAsg 1 (mUn dNeg (mC (.int 1))))
 (mSeq (mIf (mB (mBin dNotN (mFld [(Str.ofString "Times")] (Str.ofString "high") (mVar 0)) (mC .non)))
 (mAsg 1 (mFld [(Str.ofString "Times")] (Str.ofString "high") (mVar 0)))
 (mSkip))
 (mRet (mTup (mCons (mC (.str (Str.ofString "times"))) (mCons (mMethI (Str.ofString "told") [((Str.ofString "One"), (m_One_told_38426)), ((Str.ofString "Chain"), (S 0)), ((Str.ofString "Choice"), (S 1)), ((Str.ofString "Times"), (S 3)), ((Str.ofString "Mixed"), (S 2))] (mFld [(Str.ofString "Times")] (Str.ofString "part") (mVar 0)) (mNil)) (mCons (mFld [(Str.ofString "Times")] (Str.ofString "low") (mVar 0)) (mCons (mVar 1) (mNil)))))))))
def m_tolds_6615b (S : Nat → List D → MH → R D) : List D → MH → R D := mFun 1 2
 (mRet (mCall dTuple (mCons (mLc (mIter (mVar 0)) (mgName 1) (mYes) (mMethI (Str.ofString "told") [((Str.ofString "One"), (m_One_told_38426)), ((Str.ofString "Chain"), (S 0)), ((Str.ofString "Choice"), (S 1)), ((Str.ofString "Times"), (S 3)), ((Str.ofString "Mixed"), (S 2))] (mVar 1) (mNil)) [1]) (mNil))))
def m_scc_Chain_told_612a9 : Nat → Nat → List D → MH → R D
 | 0 => fun _ _ _ => .bad
 | n + 1 => fun i => match i with
   | 0 => m_Chain_told_5991d (m_scc_Chain_told_612a9 n)
   | 1 => m_Choice_told_15b0d (m_scc_Chain_told_612a9 n)
   | 2 => m_Mixed_told_4747f (m_scc_Chain_told_612a9 n)
   | 3 => m_Times_told_c3621 (m_scc_Chain_told_612a9 n)
   | 4 => m_tolds_6615b (m_scc_Chain_told_612a9 n)
   | _ => fun _ _ => .bad
def m_One_bare_7e98d : List D → MH → R D := mFun 1 1
 (mRet (mC (.bl false)))
def m_Chain_bare_23255 (S : Nat → List D → MH → R D) : List D → MH → R D := mFun 1 2
 (mRet (mCall dAll (mCons (mLc (mIter (mFld [(Str.ofString "Chain"), (Str.ofString "Choice"), (Str.ofString "Mixed")] (Str.ofString "parts") (mVar 0))) (mgName 1) (mYes) (mMethI (Str.ofString "bare") [((Str.ofString "One"), (m_One_bare_7e98d)), ((Str.ofString "Chain"), (S 0)), ((Str.ofString "Choice"), (S 1)), ((Str.ofString "Times"), (S 3)), ((Str.ofString "Mixed"), (S 2))] (mVar 1) (mNil)) [1]) (mNil))))
def m_Choice_bare_58e6c (S : Nat → List D → MH → R D) : List D → MH → R D := mFun 1 2
 (mRet (mCall dAny (mCons (mLc (mIter (mFld [(Str.ofString "Chain"), (Str.ofString "Choice"), (Str.ofString "Mixed")] (Str.ofString "parts") (mVar 0))) (mgName 1) (mYes) (mMethI (Str.ofString "bare") [((Str.ofString "One"), (m_One_bare_7e98d)), ((Str.ofString "Chain"), (S 0)), ((Str.ofString "Choice"), (S 1)), ((Str.ofString "Times"), (S 3)), ((Str.ofString "Mixed"), (S 2))] (mVar 1) (mNil)) [1]) (mNil))))
def m_Mixed_bare_6b72e (S : Nat → List D → MH → R D) : List D → MH → R D := mFun 1 2
 (mRet (mCall dAll (mCons (mLc (mIter (mFld [(Str.ofString "Chain"), (Str.ofString "Choice"), (Str.ofString "Mixed")] (Str.ofString "parts") (mVar 0))) (mgName 1) (mYes) (mMethI (Str.ofString "bare") [((Str.ofString "One"), (m_One_bare_7e98d)), ((Str.ofString "Chain"), (S 0)), ((Str.ofString "Choice"), (S 1)), ((Str.ofString "Times"), (S 3)), ((Str.ofString "Mixed"), (S 2))] (mVar 1) (mNil)) [1]) (mNil))))
def m_Times_bare_b5c39 (S : Nat → List D → MH → R D) : List D → MH → R D := mFun 1 1
 (mRet (mOrV (mBin dEq (mFld [(Str.ofString "Times")] (Str.ofString "low") (mVar 0)) (mC (.int 0))) (mMethI (Str.ofString "bare") [((Str.ofString "One"), (m_One_bare_7e98d)), ((Str.ofString "Chain"), (S 0)), ((Str.ofString "Choice"), (S 1)), ((Str.ofString "Times"), (S 3)), ((Str.ofString "Mixed"), (S 2))] (mFld [(Str.ofString "Times")] (Str.ofString "part") (mVar 0)) (mNil))))
def m_scc_Chain_bare_b4656 : Nat → Nat → List D → MH → R D
 | 0 => fun _ _ _ => .bad
 | n + 1 => fun i => match i with
   | 0 => m_Chain_bare_23255 (m_scc_Chain_bare_b4656 n)
   | 1 => m_Choice_bare_58e6c (m_scc_Chain_bare_b4656 n)
   | 2 => m_Mixed_bare_6b72e (m_scc_Chain_bare_b4656 n)
   | 3 => m_Times_bare_b5c39 (m_scc_Chain_bare_b4656 n)
   | _ => fun _ _ => .bad
end Mi
namespace Mi
open PySem L2
/-! Patterns, plainly. -/
inductive PT where
  | one (x : Str) | chain (l : List PT) | choice (l : List PT) | times (p : PT) (lo : Int) (hi : Option Int) | mixed (l : List PT)
/-- the figures of a number -/
def dg (i : Int) : List Nat := (Str.ofString (toString i)).cps.toList
mutual
def PT.pen : PT → List Nat
  | .one x => x.cps.toList
  | .times p lo hi => 84 :: (dg lo ++ 44 :: (dg (hi.getD (-1)) ++ 40 :: (p.pen ++ [41])))
  | .chain l => 67 :: 40 :: PT.jn l
  | .choice l => 79 :: 40 :: PT.jn l
  | .mixed l => 77 :: 40 :: PT.jn l
def PT.jn : List PT → List Nat
  | [] => [41]
  | p :: l => p.pen ++ PT.jt l
def PT.jt : List PT → List Nat
  | [] => [41]
  | p :: l => 32 :: (p.pen ++ PT.jt l)
end
mutual
def PT.ok : PT → Prop
  | .one x => Nm x
  | .times p lo hi => p.ok ∧ (0 ≤ lo ∧ lo ≤ 9) ∧ ∀ k, hi = some k → lo ≤ k ∧ k ≤ 9
  | .chain l => PT.oks l
  | .choice l => PT.oks l
  | .mixed l => PT.oks l
def PT.oks : List PT → Prop
  | [] => True
  | p :: l => p.ok ∧ PT.oks l
end
def hiOk (lo : Int) (hi : Option Int) : Prop := ∀ k, hi = some k → lo ≤ k ∧ k ≤ 9
/-- it begins with no letter -/
def NL (r : List Nat) : Prop := ∀ c t, r = c :: t → ¬ Ltr c
theorem str_of {x y : Str} (e : x.cps.toList = y.cps.toList) : x = y := by
  cases x; cases y
  simp only at e
  have := Array.toList_inj.mp e
  rw [this]
/-! ### making -/
def opC : PT → List PT
  | .chain l => l
  | p => [p]
def opO : PT → List PT
  | .choice l => l
  | p => [p]
def isE : PT → Bool
  | .chain [] => true
  | _ => false
def opM (p : PT) : List PT := match p with
  | .mixed l => l
  | p => if isE p = true then [] else [p]
/-- one alone is itself -/
def solo (f : List PT → PT) : List PT → PT
  | [p] => p
  | l => f l
def onceA (acc : List PT) : List PT → List PT
  | [] => acc
  | p :: l => onceA (if p.pen ∈ acc.map PT.pen then acc else acc ++ [p]) l
def mkC (l : List PT) : PT := solo .chain (l.flatMap opC)
def mkO (l : List PT) : PT := solo .choice (onceA [] (l.flatMap opO))
def mixN : List PT → PT
  | [] => .chain []
  | l => .mixed l
def mkM (l : List PT) : PT := solo mixN (l.flatMap opM)
def mkT (p : PT) (lo : Int) (hi : Option Int) : PT := if hi = some 0 ∨ isE p = true then .chain [] else if lo = 1 ∧ hi = some 1 then p else .times p lo hi
mutual
def PT.made : PT → PT
  | .one x => .one x
  | .times p lo hi => mkT p.made lo hi
  | .chain l => mkC (PT.mades l)
  | .choice l => mkO (PT.mades l)
  | .mixed l => mkM (PT.mades l)
def PT.mades : List PT → List PT
  | [] => []
  | p :: l => p.made :: PT.mades l
end
/-! ### bare -/
mutual
def PT.bare : PT → Bool
  | .one _ => false
  | .times p lo _ => decide (lo = 0) || p.bare
  | .chain l => PT.bareA l
  | .choice l => PT.bareO l
  | .mixed l => PT.bareA l
def PT.bareA : List PT → Bool
  | [] => true
  | p :: l => p.bare && PT.bareA l
def PT.bareO : List PT → Bool
  | [] => false
  | p :: l => p.bare || PT.bareO l
end
end Mi
namespace Mi
open PySem L2
local macro_rules | `(tactic| walk_at "gl") => `(tactic| first
  | assumption
  | (refine Own.atL (h0 := ?_) (L := ?_) ?_ 0 ?_; rotate_left; rotate_left; assumption; rfl)
  | (refine Own.atL (h0 := ?_) (L := ?_) ?_ 1 ?_; rotate_left; rotate_left; assumption; rfl)
  | (refine Own.atL (h0 := ?_) (L := ?_) ?_ 2 ?_; rotate_left; rotate_left; assumption; rfl)
  | (refine Own.atL (h0 := ?_) (L := ?_) ?_ 3 ?_; rotate_left; rotate_left; assumption; rfl)
  | (refine Own.atL (h0 := ?_) (L := ?_) ?_ 4 ?_; rotate_left; rotate_left; assumption; rfl)
  | (refine Own.atL (h0 := ?_) (L := ?_) ?_ 5 ?_; rotate_left; rotate_left; assumption; rfl)
  | (refine Own.atL (h0 := ?_) (L := ?_) ?_ 6 ?_; rotate_left; rotate_left; assumption; rfl)
  | (refine Own.atL (h0 := ?_) (L := ?_) ?_ 7 ?_; rotate_left; rotate_left; assumption; rfl)
  | (refine Own.atL (h0 := ?_) (L := ?_) ?_ 8 ?_; rotate_left; rotate_left; assumption; rfl)
  | (refine Own.atL (h0 := ?_) (L := ?_) ?_ 9 ?_; rotate_left; rotate_left; assumption; rfl)
  | (refine Own.getL (h0 := ?_) (L := ?_) ?_ ?_; rotate_left; rotate_left; assumption; assumption))
local macro_rules | `(tactic| walk_at "il") => `(tactic| first
  | (refine Own.isL (h0 := ?_) (L := ?_) (l := ?_) ?_ 0 ?_; rotate_left; rotate_left; rotate_left; assumption; rfl)
  | (refine Own.isL (h0 := ?_) (L := ?_) (l := ?_) ?_ 1 ?_; rotate_left; rotate_left; rotate_left; assumption; rfl)
  | (refine Own.isL (h0 := ?_) (L := ?_) (l := ?_) ?_ 2 ?_; rotate_left; rotate_left; rotate_left; assumption; rfl)
  | (refine Own.isL (h0 := ?_) (L := ?_) (l := ?_) ?_ 3 ?_; rotate_left; rotate_left; rotate_left; assumption; rfl)
  | (refine Own.isL (h0 := ?_) (L := ?_) (l := ?_) ?_ 4 ?_; rotate_left; rotate_left; rotate_left; assumption; rfl)
  | (refine Own.isL (h0 := ?_) (L := ?_) (l := ?_) ?_ 5 ?_; rotate_left; rotate_left; rotate_left; assumption; rfl)
  | (refine Own.isL (h0 := ?_) (L := ?_) (l := ?_) ?_ 6 ?_; rotate_left; rotate_left; rotate_left; assumption; rfl)
  | (refine Own.isL (h0 := ?_) (L := ?_) (l := ?_) ?_ 7 ?_; rotate_left; rotate_left; rotate_left; assumption; rfl)
  | (refine Own.isL (h0 := ?_) (L := ?_) (l := ?_) ?_ 8 ?_; rotate_left; rotate_left; rotate_left; assumption; rfl)
  | (refine Own.isL (h0 := ?_) (L := ?_) (l := ?_) ?_ 9 ?_; rotate_left; rotate_left; rotate_left; assumption; rfl))
local macro_rules | `(tactic| walk_at "bd") => `(tactic| first | assumption | omega | (simp; done) | (simp; omega) | (simp [*]; done) | (simp [*]; omega))
local macro_rules | `(tactic| walk_at "w") => `(tactic| first
  | ((with_reducible refine w_xfK ?_ ?_ ?_); (exact List.mem_cons_self); (decide))
  | with_reducible refine w_eq (isN_xo _) ?_
  | with_reducible refine w_eq (dNeg_int _ _) ?_)
local macro_rules | `(tactic| walk_at "w") => `(tactic| first
  | ((with_reducible refine w_addT ?_ ?_); walk_at "bd")
  | ((with_reducible refine ⟨?_, ?_⟩); (with_reducible (show isListD (.ref _) _ = true)); walk_at "il")
  | with_reducible refine w_tryK ?_
  | with_reducible refine w_raise ?_
  | with_reducible refine w_raise0 ?_
  | with_reducible refine w_isX ?_
  | ((with_reducible refine w_isXK (k := ?_) ?_ ?_); rotate_left; (first | with_reducible exact lkA | (apply lkB; decide +kernel; exact lkA) | (apply lkB; decide +kernel; apply lkB; decide +kernel; exact lkA) | (apply lkB; decide +kernel; apply lkB; decide +kernel; apply lkB; decide +kernel; exact lkA)))
  | with_reducible refine w_xf ?_)
local macro_rules | `(tactic| walk_at "w") => `(tactic| first
  | with_reducible refine w_eq (isi_bool_int _ _) ?_
  | with_reducible refine w_eq (isi_str_int _ _) ?_
  | ((with_reducible refine w_lenLm (α := ?_) (f := ?_) (l := ?_) ?_ ?_); rotate_left; rotate_left; rotate_left; walk_at "gl")
  | ((with_reducible refine w_lenL (l := ?_) ?_ ?_); rotate_left; walk_at "gl")
  | ((with_reducible refine w_iterL (l := ?_) ?_ ?_); rotate_left; walk_at "gl"; dsimp only)
  | ((with_reducible refine w_tupL (l := ?_) ?_ ?_); rotate_left; walk_at "gl")
  | ((with_reducible refine w_ixT (d := ?_) ?_ ?_); rotate_left; (first | with_reducible assumption | rfl))
  | ((with_reducible refine w_ixL (l := ?_) (d := ?_) ?_ ?_ ?_); rotate_left; rotate_left; walk_at "gl"; (first | with_reducible assumption | rfl)))
local macro_rules | `(tactic| walk_at "w") => `(tactic| first
  | with_reducible refine w_chK ?_
  | with_reducible refine w_retN ?_
  | with_reducible refine w_brk ?_
  | with_reducible refine w_cont ?_
  | with_reducible refine w_asgT ?_
  | with_reducible refine w_eq (isi_str_str _ _) ?_
  | with_reducible refine w_eq (isi_int_int _ _) ?_
  | with_reducible refine w_eq (isi_tup_tup _ _) ?_)
local macro_rules | `(tactic| walk_at "w") => `(tactic| first
  | with_reducible refine w_revL ?_
  | with_reducible refine w_listRg1 ?_
  | with_reducible refine w_tindex ?_
  | with_reducible refine w_setIx ?_
  | with_reducible refine w_un ?_
  | with_reducible refine w_rev1 ?_
  | with_reducible refine w_rev2 ?_
  | with_reducible refine w_chain ?_)
local macro_rules | `(tactic| walk_at "w") => `(tactic| first
  | with_reducible refine w_zip ?_
  | with_reducible refine w_ifE ?_
  | with_reducible refine w_andV ?_
  | with_reducible refine w_orV ?_
  | with_reducible refine w_notV ?_
  | with_reducible refine w_andK ?_
  | with_reducible refine w_orK ?_
  | with_reducible refine w_notK ?_)
local macro_rules | `(tactic| walk_at "w") => `(tactic| first
  | with_reducible refine w_eq (iter1_tup _ _) ?_
  | with_reducible refine w_eq (iter1_str _ _) ?_
  | with_reducible refine w_sl ?_
  | with_reducible refine w_no ?_
  | with_reducible refine w_some ?_
  | with_reducible refine w_unI ?_
  | with_reducible refine w_meth ?_
  | with_reducible refine w_isi ?_)
local macro_rules | `(tactic| walk_at "w") => `(tactic| first
  | with_reducible refine w_lst ?_
  | with_reducible refine w_lc ?_
  | with_reducible refine w_for ?_
  | with_reducible refine w_range1 ?_
  | with_reducible refine w_range2 ?_
  | ((with_reducible refine w_dR1 ?_ ?_); (first | decide | omega))
  | ((with_reducible refine w_dR2 ?_ ?_); (first | decide | omega))
  | with_reducible refine w_iter ?_)
local macro_rules | `(tactic| walk_at "w") => `(tactic| first
  | with_reducible refine w_or ?_
  | with_reducible refine br_n ?_
  | with_reducible refine br_tt ?_
  | with_reducible refine br_ff ?_
  | ((with_reducible refine br_dt ?_ ?_); (first | assumption | omega | rfl))
  | ((with_reducible refine br_df ?_ ?_); (first | assumption | omega))
  | with_reducible refine w_tup ?_
  | ((with_reducible refine w_toTup ?_ ?_); exact (by simp)))
local macro_rules | `(tactic| walk_at "w") => `(tactic| first
  | with_reducible refine w_lenTm ?_
  | with_reducible refine w_eq (dLen_tup _ _) ?_
  | with_reducible refine w_eq (dSl_tup _ _ _ _) ?_
  | with_reducible refine w_eq (dMax_ev _ _ _) ?_
  | with_reducible refine w_eq (dMin_ev _ _ _) ?_
  | with_reducible refine w_eq (dAbs_ev _ _) ?_
  | with_reducible refine w_not ?_
  | with_reducible refine w_and ?_)
local macro_rules | `(tactic| walk_at "w") => `(tactic| first
  | with_reducible refine w_eq (dGe_int _ _ _) ?_
  | with_reducible refine w_eq (dNe_int _ _ _) ?_
  | ((with_reducible refine w_mod ?_ ?_); (first | assumption | decide | omega))
  | ((with_reducible refine w_fdiv ?_ ?_); (first | assumption | decide | omega))
  | ((with_reducible refine w_mulS ?_ ?_); (first | decide | omega))
  | ((with_reducible refine w_addS ?_ ?_); (first | assumption | decide | omega))
  | ((with_reducible refine w_lenS ?_ ?_); (first | assumption | decide | omega))
  | ((with_reducible refine w_slS ?_ ?_); (first | assumption | decide | omega)))
local macro_rules | `(tactic| walk_at "w") => `(tactic| first
  | with_reducible refine w_eq (dEq_int _ _ _) ?_
  | with_reducible refine w_eq (dEq_str _ _ _) ?_
  | with_reducible refine w_eq (dNe_strs _ _ _) ?_
  | with_reducible refine w_eq (dEq_bls _ _ _) ?_
  | with_reducible refine w_eq (dNe_bls _ _ _) ?_
  | with_reducible refine w_eq (dLt_int _ _ _) ?_
  | with_reducible refine w_eq (dLe_int _ _ _) ?_
  | with_reducible refine w_eq (dGt_int _ _ _) ?_)
local macro_rules | `(tactic| walk_at "w") => `(tactic| first
  | with_reducible refine w_if ?_
  | with_reducible refine w_B ?_
  | with_reducible refine w_unB ?_
  | with_reducible refine w_ret ?_
  | with_reducible refine w_drop ?_
  | with_reducible refine w_skip ?_
  | with_reducible refine w_eq (dAdd_int _ _ _) ?_
  | with_reducible refine w_eq (dSub_int _ _ _) ?_)
local macro_rules | `(tactic| walk_at "w") => `(tactic| first
  | with_reducible refine w_seq ?_
  | with_reducible refine w_asg ?_
  | with_reducible refine w_cons ?_
  | with_reducible refine w_nil ?_
  | with_reducible refine w_c ?_
  | ((with_reducible refine w_var (d := ?_) ?_ ?_); rotate_left; rfl)
  | with_reducible refine w_bin ?_
  | with_reducible refine w_call ?_)
local macro_rules | `(tactic| walk_at "go") => `(tactic| (repeat (walk_at "w")); try dsimp only [List.set])
local macro_rules | `(tactic| walk_at "fn") => `(tactic| ((refine w_fun ?_); simp only [startD, List.map_cons, List.map_nil, List.reduceReplicate, Nat.reduceSub, List.cons_append, List.nil_append]; walk_at "go"))
section
open PySem L2

local macro_rules | `(tactic| walk_at "lk") => `(tactic| first | with_reducible exact lkA | (apply lkB; decide +kernel; walk_at "lk"))
local macro_rules | `(tactic| walk_at "mk") => `(tactic| first | with_reducible exact mkA | (apply mkB; decide +kernel; walk_at "mk"))
local macro_rules | `(tactic| walk_at "fk") => `(tactic| first | with_reducible exact fkA | exact fkN | (apply fkB; decide +kernel; walk_at "fk"))
local macro_rules | `(tactic| walk_at "cs") => `(tactic| first | exact List.mem_cons_self | (apply List.mem_cons_of_mem; walk_at "cs"))
local macro_rules | `(tactic| walk_at "w") => `(tactic| first
  | with_reducible refine w_fld ?_
  | ((with_reducible refine w_fldK (c := ?_) (fs := ?_) (v := ?_) ?_ ?_ ?_ ?_); rotate_left; rotate_left; rotate_left; (with_reducible assumption); (walk_at "cs"); (walk_at "fk"))
  | with_reducible refine w_setFld ?_
  | with_reducible refine w_new ?_
  | with_reducible refine w_methI ?_
  | ((with_reducible refine w_methK (c := ?_) (fs := ?_) (F := ?_) ?_ ?_ ?_ ?_); rotate_left; rotate_left; rotate_left; (with_reducible assumption); (walk_at "mk"); (walk_at "fk"))
  | with_reducible refine w_isC ?_
  | ((with_reducible refine w_isCK (c := ?_) (fs := ?_) (k := ?_) ?_ ?_ ?_); rotate_left; rotate_left; rotate_left; (with_reducible assumption); (walk_at "lk"))
  | with_reducible refine w_callD ?_
  | with_reducible refine w_mDSet ?_
  | with_reducible refine w_eq (nN_non _) ?_
  | with_reducible refine w_eq (nN_int _ _) ?_
  | with_reducible refine w_eq (nN_tup _ _) ?_
  | with_reducible refine w_eq (nN_ref _ _) ?_
  | with_reducible refine w_eq (iN_non _) ?_
  | with_reducible refine w_eq (iN_int _ _) ?_
  | with_reducible refine w_eq (iN_tup _ _) ?_
  | with_reducible refine w_eq (iN_ref _ _) ?_)
/-! Patterns in the heap. -/
def mS (l : List Nat) : Str := ⟨l.toArray⟩
theorem mS_cps (l : List Nat) : (mS l).cps.toList = l := rfl
theorem mS_len (l : List Nat) : (mS l).length = l.length := by rw [str_len]; rfl
theorem mS_app (a b : List Nat) : mS a ++ mS b = mS (a ++ b) := by
  apply Str.ext'
  apply Array.toList_inj.mp
  show ((mS a).cps ++ (mS b).cps).toList = a ++ b
  simp [mS]
theorem mS_of (x : Str) : mS x.cps.toList = x := rfl
theorem mS_inj {a b : List Nat} : mS a = mS b ↔ a = b := ⟨fun h => by have := congrArg (fun z : Str => z.cps.toList) h; exact this, fun h => by rw [h]⟩
/-! size, depth -/
mutual
def PT.sz : PT → Nat
  | .one _ => 1
  | .times p _ _ => 1 + p.sz
  | .chain l => 1 + PT.szs l
  | .choice l => 1 + PT.szs l
  | .mixed l => 1 + PT.szs l
def PT.szs : List PT → Nat
  | [] => 0
  | p :: l => p.sz + PT.szs l
end
mutual
def PT.dep : PT → Nat
  | .one _ => 1
  | .times p _ _ => 1 + p.dep
  | .chain l => 1 + PT.deps l
  | .choice l => 1 + PT.deps l
  | .mixed l => 1 + PT.deps l
def PT.deps : List PT → Nat
  | [] => 0
  | p :: l => max p.dep (PT.deps l)
end
/-! what is told -/
def hiT (hi : Option Int) : Int := hi.getD (-1)
mutual
def PT.tD : PT → D
  | .one x => .tup [.str (Str.ofString "one"), .str x]
  | .times p lo hi => .tup [.str (Str.ofString "times"), p.tD, .int lo, .int (hi.getD (-1))]
  | .chain l => .tup [.str (Str.ofString "chain"), .tup (PT.tDs l)]
  | .choice l => .tup [.str (Str.ofString "choice"), .tup (PT.tDs l)]
  | .mixed l => .tup [.str (Str.ofString "mixed"), .tup (PT.tDs l)]
def PT.tDs : List PT → List D
  | [] => []
  | p :: l => p.tD :: PT.tDs l
end
/-! in the heap -/
def hiD : Option Int → D
  | none => .non
  | some k => .int k
def InsL (h : MH) (c : Str) (d : D) (es : List D) : Prop := ∃ i, d = .ref i ∧ h[i]? = some (.ins c [(Str.ofString "parts", .tup es)])
mutual
def Pat (h : MH) : PT → D → Prop
  | .one x, d => ∃ i, d = .ref i ∧ h[i]? = some (.ins (Str.ofString "One") [(Str.ofString "form", .str x)])
  | .times p lo hi, d => ∃ i e, d = .ref i ∧ h[i]? = some (.ins (Str.ofString "Times") [(Str.ofString "part", e), (Str.ofString "low", .int lo), (Str.ofString "high", hiD hi)]) ∧ Pat h p e
  | .chain l, d => ∃ es, InsL h (Str.ofString "Chain") d es ∧ Pats h l es
  | .choice l, d => ∃ es, InsL h (Str.ofString "Choice") d es ∧ Pats h l es
  | .mixed l, d => ∃ es, InsL h (Str.ofString "Mixed") d es ∧ Pats h l es
def Pats (h : MH) : List PT → List D → Prop
  | [], es => es = []
  | p :: l, es => ∃ d ds, es = d :: ds ∧ Pat h p d ∧ Pats h l ds
end
theorem InsL.mono {h h' : MH} {c : Str} {d : D} {es : List D} (p : h <+: h') (x : InsL h c d es) : InsL h' c d es := by
  obtain ⟨i, e1, e2⟩ := x
  exact ⟨i, e1, pre_get p e2⟩
mutual
theorem Pat.mono {h h' : MH} (pr : h <+: h') : ∀ (p : PT) (d : D), Pat h p d → Pat h' p d
  | .one x, d, ⟨i, e1, e2⟩ => ⟨i, e1, pre_get pr e2⟩
  | .times p lo hi, d, ⟨i, e, e1, e2, e3⟩ => ⟨i, e, e1, pre_get pr e2, Pat.mono pr p e e3⟩
  | .chain l, d, ⟨es, e1, e2⟩ => ⟨es, e1.mono pr, Pats.mono pr l es e2⟩
  | .choice l, d, ⟨es, e1, e2⟩ => ⟨es, e1.mono pr, Pats.mono pr l es e2⟩
  | .mixed l, d, ⟨es, e1, e2⟩ => ⟨es, e1.mono pr, Pats.mono pr l es e2⟩
theorem Pats.mono {h h' : MH} (pr : h <+: h') : ∀ (l : List PT) (es : List D), Pats h l es → Pats h' l es
  | [], _, e => e
  | p :: l, _, ⟨d, ds, e, h1, h2⟩ => ⟨d, ds, e, Pat.mono pr p d h1, Pats.mono pr l ds h2⟩
end
theorem Pats.len {h : MH} : ∀ {l : List PT} {es : List D}, Pats h l es → es.length = l.length
  | [], _, e => by rw [show _ = [] from e]; rfl
  | p :: l, _, ⟨d, ds, e, h1, h2⟩ => by rw [e, List.length_cons, List.length_cons, Pats.len h2]
theorem Pats.get {h : MH} : ∀ {l : List PT} {es : List D} {i : Nat} {d : D}, Pats h l es → es[i]? = some d → ∃ p, l[i]? = some p ∧ Pat h p d
  | [], es, i, d, e, g => by rw [show es = [] from e] at g; simp at g
  | p :: l, _, 0, d, ⟨d', ds, e, h1, h2⟩, g => by
    subst e
    simp only [List.getElem?_cons_zero, Option.some.injEq] at g
    subst g
    exact ⟨p, rfl, h1⟩
  | p :: l, _, i + 1, d, ⟨d', ds, e, h1, h2⟩, g => by
    subst e
    obtain ⟨q, e1, e2⟩ := Pats.get (i := i) h2 (by simpa using g)
    exact ⟨q, by simpa using e1, e2⟩
theorem Pats.app {h : MH} : ∀ {l m : List PT} {es fs : List D}, Pats h l es → Pats h m fs → Pats h (l ++ m) (es ++ fs)
  | [], m, es, fs, e, g => by rw [show es = [] from e]; exact g
  | p :: l, m, _, fs, ⟨d, ds, e, h1, h2⟩, g => by subst e; exact ⟨d, ds ++ fs, rfl, h1, Pats.app h2 g⟩
theorem Pats.one {h : MH} {p : PT} {d : D} (x : Pat h p d) : Pats h [p] [d] := ⟨d, [], rfl, x, rfl⟩
theorem Pats.snoc {h : MH} {l : List PT} {es : List D} {p : PT} {d : D} (g : Pats h l es) (x : Pat h p d) : Pats h (l ++ [p]) (es ++ [d]) := g.app (Pats.one x)
theorem get_new {h : MH} {x : MO} : (h ++ [x])[h.length]? = some x := by simp
theorem take_snP {α : Type} {l : List α} {k : Nat} {x : α} (e : l[k]? = some x) : l.take (k + 1) = l.take k ++ [x] := by
  rw [List.take_succ, e]; rfl
/-! ### told -/
abbrev tabT (n : Nat) : MTab := [((Str.ofString "One"), (m_One_told_38426)), ((Str.ofString "Chain"), (m_scc_Chain_told_612a9 n 0)), ((Str.ofString "Choice"), (m_scc_Chain_told_612a9 n 1)), ((Str.ofString "Times"), (m_scc_Chain_told_612a9 n 3)), ((Str.ofString "Mixed"), (m_scc_Chain_told_612a9 n 2))]
def ToldAt (n : Nat) : Prop := ∀ (p : PT) (d : D) (h : MH) (ρ : Slots), Pat h p d → 2 * p.dep ≤ n → p.sz ≤ 10000 → Sat (methK (Str.ofString "told") (tabT n) mNil ρ d h) (fun y h' => h <+: h' ∧ y = p.tD) noX
/-! ### penned -/
mutual
def PT.jb : List PT → List Nat
  | [] => []
  | p :: l => p.pen ++ PT.jc l
def PT.jc : List PT → List Nat
  | [] => []
  | p :: l => 32 :: (p.pen ++ PT.jc l)
end
/-! ### dicts of texts -/
theorem putKD_len (kvs : List (Key × D)) (k : Key) (v : D) : (putKD kvs k v).length ≤ kvs.length + 1 := by
  unfold putKD
  split
  · rw [List.length_map]; omega
  · simp
/-! ### each once -/
structure Fit (p : PT) : Prop where
  ok : p.ok
  dep : p.dep ≤ 18
  sz : p.sz ≤ 10000
/-! ### the five functions -/
/-- what the class of a pattern is -/
def PT.cls : PT → Str
  | .one _ => Str.ofString "One"
  | .times _ _ _ => Str.ofString "Times"
  | .chain _ => Str.ofString "Chain"
  | .choice _ => Str.ofString "Choice"
  | .mixed _ => Str.ofString "Mixed"
theorem Pat.cell {h : MH} {p : PT} {d : D} (x : Pat h p d) : ∃ i fs, d = .ref i ∧ h[i]? = some (.ins p.cls fs) := by
  cases p with
  | one x' => obtain ⟨i, e1, e2⟩ := x; exact ⟨i, _, e1, e2⟩
  | times p lo hi => obtain ⟨i, e, e1, e2, e3⟩ := x; exact ⟨i, _, e1, e2⟩
  | chain l => obtain ⟨es, ⟨i, e1, e2⟩, _⟩ := x; exact ⟨i, _, e1, e2⟩
  | choice l => obtain ⟨es, ⟨i, e1, e2⟩, _⟩ := x; exact ⟨i, _, e1, e2⟩
  | mixed l => obtain ⟨es, ⟨i, e1, e2⟩, _⟩ := x; exact ⟨i, _, e1, e2⟩
end
section
open PySem L2
def isL72 (c : Nat) : Bool := decide (97 ≤ c ∧ c ≤ 122)
/-! ### blanks taken off -/
def strp72 (l : List Nat) : List Nat := ((l.dropWhile (· == 32)).reverse.dropWhile (· == 32)).reverse
theorem tw_take72 (p : Nat → Bool) : ∀ l : List Nat, l.drop (l.takeWhile p).length = l.dropWhile p
  | [] => rfl
  | c :: l => by
    rw [List.takeWhile_cons, List.dropWhile_cons]
    split
    · rw [List.length_cons, List.drop_succ_cons, tw_take72 p l]
    · rfl
theorem rev_take72 (l : List Nat) (p : Nat → Bool) : (l.reverse.dropWhile p).reverse = l.take (l.length - (l.reverse.takeWhile p).length) := by
  rw [← tw_take72, List.drop_reverse, List.reverse_reverse]
theorem strip_S72 (l : List Nat) : Txt.stripChars (mS l) (mS [32]) = mS (strp72 l) := by
  have eg : (mS [32]).cps.contains = fun c => c == 32 := funext fun c => by
    show (#[32] : Array Nat).contains c = _
    simp
    rfl
  have key : PySem.Builtin.Str.strSub (mS l) (stripLo (fun c => c == 32) true (mS l)) (stripHi (fun c => c == 32) true (mS l) (stripLo (fun c => c == 32) true (mS l))) = mS (strp72 l) := by
    unfold PySem.Builtin.Str.strSub strp72
    rw [rev_take72, ← tw_take72]
    refine str_of ?_
    show ((l.toArray).extract _ _).toList = _
    rw [Array.toList_extract]
    unfold stripLo stripHi
    rw [if_pos rfl, if_pos rfl]
    have e : (mS l).length = l.length := mS_len l
    rw [e]
    show List.extract l _ _ = _
    rw [List.extract_eq_drop_take, mS_cps]
    show List.take (l.length - _ - _) (List.drop _ l) = List.take ((List.drop _ l).length - _) (List.drop _ l)
    congr 1
    rw [List.length_drop]
    show l.length - (List.takeWhile (fun c => c == 32) (List.drop (List.takeWhile (fun c => c == 32) l).length l).reverse).length - (List.takeWhile (fun c => c == 32) l).length = l.length - (List.takeWhile (fun c => c == 32) l).length - (List.takeWhile (fun c => c == 32) (List.drop (List.takeWhile (fun c => c == 32) l).length l).reverse).length
    omega
  unfold Txt.stripChars Txt.stripBy
  rw [eg]
  split
  · rename_i h
    unfold stripSame at h
    obtain ⟨h1, h2⟩ := Bool.and_eq_true_iff.mp h
    have h1 : stripLo (fun c => c == 32) true (mS l) = 0 := eq_of_beq h1
    have h2 : stripHi (fun c => c == 32) true (mS l) (stripLo (fun c => c == 32) true (mS l)) = (mS l).length := eq_of_beq h2
    rw [← key, h1] 
    rw [h1] at h2
    rw [h2]
    refine str_of ?_
    show l = ((l.toArray).extract 0 (mS l).length).toList
    rw [mS_len]
    simp
  · exact key
/-! ### items read -/
inductive PR72 (α : Type) where
  | out | no | ok (a : α)
def pRow72 (f : List Nat → PR72 (It × List Nat)) : Nat → List Nat → PR72 (List It × List Nat)
  | 0, _ => .out
  | k + 1, l => match f l with
    | .out => .out
    | .no => .no
    | .ok (i, r) => match r with
      | 32 :: r' => match pRow72 f k r' with
        | .out => .out
        | .no => .no
        | .ok (its, q) => .ok (i :: its, q)
      | r => .ok ([i], r)
def pIt72 : Nat → List Nat → PR72 (It × List Nat)
  | 0, _ => .out
  | n + 1, l => match l with
    | 42 :: r => .ok (.hole, r)
    | l => if 1 ≤ (l.takeWhile isL72).length ∧ (l.takeWhile isL72).length ≤ 8 then
        match l.dropWhile isL72 with
        | 40 :: r' => match pRow72 (pIt72 n) (r'.length + 1) r' with
          | .out => .out
          | .no => .no
          | .ok (its, q) => match q with
            | 41 :: q' => .ok (.nd (mS (l.takeWhile isL72)) its, q')
            | _ => .no
        | r => .ok (.nd (mS (l.takeWhile isL72)) [], r)
      else .no
/-! ### items written -/
mutual
def shI72 : It → List Nat
  | .hole => [42]
  | .nd x l => x.cps.toList ++ shB72 l
def shB72 : List It → List Nat
  | [] => []
  | i :: l => 40 :: (shI72 i ++ (shT72 l ++ [41]))
def shT72 : List It → List Nat
  | [] => []
  | i :: l => 32 :: (shI72 i ++ shT72 l)
end
def shL72 : List It → List Nat
  | [] => []
  | i :: l => shI72 i ++ shT72 l
mutual
def It.nms : It → Prop
  | .hole => True
  | .nd x l => Nm x ∧ It.nmss l
def It.nmss : List It → Prop
  | [] => True
  | i :: l => i.nms ∧ It.nmss l
end
theorem nmss_iff72 : ∀ {l : List It}, It.nmss l ↔ ∀ i ∈ l, i.nms
  | [] => by simp [It.nmss]
  | i :: l => by rw [It.nmss, nmss_iff72 (l := l)]; simp
theorem takeW_nm72 {x : Str} (h : Nm x) {r : List Nat} (hr : ∀ c r', r = c :: r' → isL72 c = false) : (x.cps.toList ++ r).takeWhile isL72 = x.cps.toList ∧ (x.cps.toList ++ r).dropWhile isL72 = r := by
  have hl : ∀ c ∈ x.cps.toList, isL72 c = true := fun c hc => by
    have := h.2.2 c hc
    unfold Ltr at this
    unfold isL72
    exact decide_eq_true this
  generalize x.cps.toList = l at *
  clear h
  induction l with
  | nil =>
    cases r with
    | nil => exact ⟨rfl, rfl⟩
    | cons c r =>
      have := hr c r rfl
      simp [List.takeWhile_cons, List.dropWhile_cons, this]
  | cons c l ih =>
    have h1 := hl c List.mem_cons_self
    obtain ⟨i1, i2⟩ := ih fun d hd => hl d (List.mem_cons_of_mem _ hd)
    rw [List.cons_append, List.takeWhile_cons, List.dropWhile_cons, if_pos h1, if_pos h1, i1, i2]
    exact ⟨rfl, rfl⟩
/-- what may stand behind items: no letter, no bracket, no blank -/
def End72 (r : List Nat) : Prop := ∀ c r', r = c :: r' → isL72 c = false ∧ c ≠ 40 ∧ c ≠ 32
end
end Mi


/-! sorted(d) of a dict whose keys are texts; list.clear. -/
namespace Mi
open PySem L2 PySem.Spec PyProof.Rows
def rSortK : List V → Hp → VK → Prop := fun xs H Q => ∃ (a : Addr) (kvs : List (Key × V)) (ys : List Str), xs = [V.ref a] ∧ H a = some (.dK kvs) ∧ kvs.map (·.1) = ys.map Sum.inr ∧ ∀ p, H p = none → Q (.ref p) (upd H p (.lst ((sortS ys).map V.str)))
/-- the keys, all of them texts -/
def strKeys : List (Key × D) → Option (List Str)
  | [] => some []
  | (.inr x, _) :: l => (strKeys l).map (x :: ·)
  | (.inl _, _) :: _ => none
def dSortK : List D → MH → R D
  | [x], h => match getK h x with
    | some l => match strKeys l with
      | some ys => .ok (.ref h.length) (h ++ [.lst ((sortS ys).map .str)])
      | none => .bad
    | none => .bad
  | _, _ => .bad
def dClear : D → List D → MH → R D
  | .ref i, [], h => match h[i]? with
    | some (.lst _) => .ok .non (h.set i (.lst []))
    | _ => .bad
  | _, _, _ => .bad
/-! the calculus -/
end Mi

/-! list.pop(0), list.insert. -/
namespace Mi
open PySem L2 PySem.Spec PyProof.Rows
def dPop0 : D → List D → MH → R D
  | .ref i, [.int 0], h => match h[i]? with
    | some (.lst (d :: l)) => .ok d (h.set i (.lst l))
    | _ => .bad
  | _, _, _ => .bad
/-- list.insert -/
def insD (l : List D) (k : Nat) (d : D) : List D := l.take k ++ d :: l.drop k
end Mi

/-! int(text). -/
namespace Mi
open PySem L2
def dIntS : List D → MH → R D
  | [.str x], h => match PySem.intText? x with
    | some n => if x.length ≤ 640 then .ok (.int n) h else .bad
    | none => .bad
  | _, _ => .bad
section
variable {g : G} {X : Cx}
end
end Mi
namespace Mi
open PySem L2
end Mi
namespace Mi
open PySem L2
end Mi
namespace Mi
open PySem L2
local macro_rules | `(tactic| walk_at "gl") => `(tactic| first
  | assumption
  | (refine Own.atL (h0 := ?_) (L := ?_) ?_ 0 ?_; rotate_left; rotate_left; assumption; rfl)
  | (refine Own.atL (h0 := ?_) (L := ?_) ?_ 1 ?_; rotate_left; rotate_left; assumption; rfl)
  | (refine Own.atL (h0 := ?_) (L := ?_) ?_ 2 ?_; rotate_left; rotate_left; assumption; rfl)
  | (refine Own.atL (h0 := ?_) (L := ?_) ?_ 3 ?_; rotate_left; rotate_left; assumption; rfl)
  | (refine Own.atL (h0 := ?_) (L := ?_) ?_ 4 ?_; rotate_left; rotate_left; assumption; rfl)
  | (refine Own.atL (h0 := ?_) (L := ?_) ?_ 5 ?_; rotate_left; rotate_left; assumption; rfl)
  | (refine Own.atL (h0 := ?_) (L := ?_) ?_ 6 ?_; rotate_left; rotate_left; assumption; rfl)
  | (refine Own.atL (h0 := ?_) (L := ?_) ?_ 7 ?_; rotate_left; rotate_left; assumption; rfl)
  | (refine Own.atL (h0 := ?_) (L := ?_) ?_ 8 ?_; rotate_left; rotate_left; assumption; rfl)
  | (refine Own.atL (h0 := ?_) (L := ?_) ?_ 9 ?_; rotate_left; rotate_left; assumption; rfl)
  | (refine Own.getL (h0 := ?_) (L := ?_) ?_ ?_; rotate_left; rotate_left; assumption; assumption))
local macro_rules | `(tactic| walk_at "il") => `(tactic| first
  | (refine Own.isL (h0 := ?_) (L := ?_) (l := ?_) ?_ 0 ?_; rotate_left; rotate_left; rotate_left; assumption; rfl)
  | (refine Own.isL (h0 := ?_) (L := ?_) (l := ?_) ?_ 1 ?_; rotate_left; rotate_left; rotate_left; assumption; rfl)
  | (refine Own.isL (h0 := ?_) (L := ?_) (l := ?_) ?_ 2 ?_; rotate_left; rotate_left; rotate_left; assumption; rfl)
  | (refine Own.isL (h0 := ?_) (L := ?_) (l := ?_) ?_ 3 ?_; rotate_left; rotate_left; rotate_left; assumption; rfl)
  | (refine Own.isL (h0 := ?_) (L := ?_) (l := ?_) ?_ 4 ?_; rotate_left; rotate_left; rotate_left; assumption; rfl)
  | (refine Own.isL (h0 := ?_) (L := ?_) (l := ?_) ?_ 5 ?_; rotate_left; rotate_left; rotate_left; assumption; rfl)
  | (refine Own.isL (h0 := ?_) (L := ?_) (l := ?_) ?_ 6 ?_; rotate_left; rotate_left; rotate_left; assumption; rfl)
  | (refine Own.isL (h0 := ?_) (L := ?_) (l := ?_) ?_ 7 ?_; rotate_left; rotate_left; rotate_left; assumption; rfl)
  | (refine Own.isL (h0 := ?_) (L := ?_) (l := ?_) ?_ 8 ?_; rotate_left; rotate_left; rotate_left; assumption; rfl)
  | (refine Own.isL (h0 := ?_) (L := ?_) (l := ?_) ?_ 9 ?_; rotate_left; rotate_left; rotate_left; assumption; rfl))
local macro_rules | `(tactic| walk_at "bd") => `(tactic| first | assumption | omega | (simp; done) | (simp; omega) | (simp [*]; done) | (simp [*]; omega))
local macro_rules | `(tactic| walk_at "w") => `(tactic| first
  | ((with_reducible refine w_xfK ?_ ?_ ?_); (exact List.mem_cons_self); (decide))
  | with_reducible refine w_eq (isN_xo _) ?_
  | with_reducible refine w_eq (dNeg_int _ _) ?_)
local macro_rules | `(tactic| walk_at "w") => `(tactic| first
  | ((with_reducible refine w_addT ?_ ?_); walk_at "bd")
  | ((with_reducible refine ⟨?_, ?_⟩); (with_reducible (show isListD (.ref _) _ = true)); walk_at "il")
  | with_reducible refine w_tryK ?_
  | with_reducible refine w_raise ?_
  | with_reducible refine w_raise0 ?_
  | with_reducible refine w_isX ?_
  | ((with_reducible refine w_isXK (k := ?_) ?_ ?_); rotate_left; (first | with_reducible exact lkA | (apply lkB; decide +kernel; exact lkA) | (apply lkB; decide +kernel; apply lkB; decide +kernel; exact lkA) | (apply lkB; decide +kernel; apply lkB; decide +kernel; apply lkB; decide +kernel; exact lkA)))
  | with_reducible refine w_xf ?_)
local macro_rules | `(tactic| walk_at "w") => `(tactic| first
  | with_reducible refine w_eq (isi_bool_int _ _) ?_
  | with_reducible refine w_eq (isi_str_int _ _) ?_
  | ((with_reducible refine w_lenLm (α := ?_) (f := ?_) (l := ?_) ?_ ?_); rotate_left; rotate_left; rotate_left; walk_at "gl")
  | ((with_reducible refine w_lenL (l := ?_) ?_ ?_); rotate_left; walk_at "gl")
  | ((with_reducible refine w_iterL (l := ?_) ?_ ?_); rotate_left; walk_at "gl"; dsimp only)
  | ((with_reducible refine w_tupL (l := ?_) ?_ ?_); rotate_left; walk_at "gl")
  | ((with_reducible refine w_ixT (d := ?_) ?_ ?_); rotate_left; (first | with_reducible assumption | rfl))
  | ((with_reducible refine w_ixL (l := ?_) (d := ?_) ?_ ?_ ?_); rotate_left; rotate_left; walk_at "gl"; (first | with_reducible assumption | rfl)))
local macro_rules | `(tactic| walk_at "w") => `(tactic| first
  | with_reducible refine w_chK ?_
  | with_reducible refine w_retN ?_
  | with_reducible refine w_brk ?_
  | with_reducible refine w_cont ?_
  | with_reducible refine w_asgT ?_
  | with_reducible refine w_eq (isi_str_str _ _) ?_
  | with_reducible refine w_eq (isi_int_int _ _) ?_
  | with_reducible refine w_eq (isi_tup_tup _ _) ?_)
local macro_rules | `(tactic| walk_at "w") => `(tactic| first
  | with_reducible refine w_revL ?_
  | with_reducible refine w_listRg1 ?_
  | with_reducible refine w_tindex ?_
  | with_reducible refine w_setIx ?_
  | with_reducible refine w_un ?_
  | with_reducible refine w_rev1 ?_
  | with_reducible refine w_rev2 ?_
  | with_reducible refine w_chain ?_)
local macro_rules | `(tactic| walk_at "w") => `(tactic| first
  | with_reducible refine w_zip ?_
  | with_reducible refine w_ifE ?_
  | with_reducible refine w_andV ?_
  | with_reducible refine w_orV ?_
  | with_reducible refine w_notV ?_
  | with_reducible refine w_andK ?_
  | with_reducible refine w_orK ?_
  | with_reducible refine w_notK ?_)
local macro_rules | `(tactic| walk_at "w") => `(tactic| first
  | with_reducible refine w_eq (iter1_tup _ _) ?_
  | with_reducible refine w_eq (iter1_str _ _) ?_
  | with_reducible refine w_sl ?_
  | with_reducible refine w_no ?_
  | with_reducible refine w_some ?_
  | with_reducible refine w_unI ?_
  | with_reducible refine w_meth ?_
  | with_reducible refine w_isi ?_)
local macro_rules | `(tactic| walk_at "w") => `(tactic| first
  | with_reducible refine w_lst ?_
  | with_reducible refine w_lc ?_
  | with_reducible refine w_for ?_
  | with_reducible refine w_range1 ?_
  | with_reducible refine w_range2 ?_
  | ((with_reducible refine w_dR1 ?_ ?_); (first | decide | omega))
  | ((with_reducible refine w_dR2 ?_ ?_); (first | decide | omega))
  | with_reducible refine w_iter ?_)
local macro_rules | `(tactic| walk_at "w") => `(tactic| first
  | with_reducible refine w_or ?_
  | with_reducible refine br_n ?_
  | with_reducible refine br_tt ?_
  | with_reducible refine br_ff ?_
  | ((with_reducible refine br_dt ?_ ?_); (first | assumption | omega | rfl))
  | ((with_reducible refine br_df ?_ ?_); (first | assumption | omega))
  | with_reducible refine w_tup ?_
  | ((with_reducible refine w_toTup ?_ ?_); exact (by simp)))
local macro_rules | `(tactic| walk_at "w") => `(tactic| first
  | with_reducible refine w_lenTm ?_
  | with_reducible refine w_eq (dLen_tup _ _) ?_
  | with_reducible refine w_eq (dSl_tup _ _ _ _) ?_
  | with_reducible refine w_eq (dMax_ev _ _ _) ?_
  | with_reducible refine w_eq (dMin_ev _ _ _) ?_
  | with_reducible refine w_eq (dAbs_ev _ _) ?_
  | with_reducible refine w_not ?_
  | with_reducible refine w_and ?_)
local macro_rules | `(tactic| walk_at "w") => `(tactic| first
  | with_reducible refine w_eq (dGe_int _ _ _) ?_
  | with_reducible refine w_eq (dNe_int _ _ _) ?_
  | ((with_reducible refine w_mod ?_ ?_); (first | assumption | decide | omega))
  | ((with_reducible refine w_fdiv ?_ ?_); (first | assumption | decide | omega))
  | ((with_reducible refine w_mulS ?_ ?_); (first | decide | omega))
  | ((with_reducible refine w_addS ?_ ?_); (first | assumption | decide | omega))
  | ((with_reducible refine w_lenS ?_ ?_); (first | assumption | decide | omega))
  | ((with_reducible refine w_slS ?_ ?_); (first | assumption | decide | omega)))
local macro_rules | `(tactic| walk_at "w") => `(tactic| first
  | with_reducible refine w_eq (dEq_int _ _ _) ?_
  | with_reducible refine w_eq (dEq_str _ _ _) ?_
  | with_reducible refine w_eq (dNe_strs _ _ _) ?_
  | with_reducible refine w_eq (dEq_bls _ _ _) ?_
  | with_reducible refine w_eq (dNe_bls _ _ _) ?_
  | with_reducible refine w_eq (dLt_int _ _ _) ?_
  | with_reducible refine w_eq (dLe_int _ _ _) ?_
  | with_reducible refine w_eq (dGt_int _ _ _) ?_)
local macro_rules | `(tactic| walk_at "w") => `(tactic| first
  | with_reducible refine w_if ?_
  | with_reducible refine w_B ?_
  | with_reducible refine w_unB ?_
  | with_reducible refine w_ret ?_
  | with_reducible refine w_drop ?_
  | with_reducible refine w_skip ?_
  | with_reducible refine w_eq (dAdd_int _ _ _) ?_
  | with_reducible refine w_eq (dSub_int _ _ _) ?_)
local macro_rules | `(tactic| walk_at "w") => `(tactic| first
  | with_reducible refine w_seq ?_
  | with_reducible refine w_asg ?_
  | with_reducible refine w_cons ?_
  | with_reducible refine w_nil ?_
  | with_reducible refine w_c ?_
  | ((with_reducible refine w_var (d := ?_) ?_ ?_); rotate_left; rfl)
  | with_reducible refine w_bin ?_
  | with_reducible refine w_call ?_)
local macro_rules | `(tactic| walk_at "go") => `(tactic| (repeat (walk_at "w")); try dsimp only [List.set])
local macro_rules | `(tactic| walk_at "fn") => `(tactic| ((refine w_fun ?_); simp only [startD, List.map_cons, List.map_nil, List.reduceReplicate, Nat.reduceSub, List.cons_append, List.nil_append]; walk_at "go"))
section
open PySem L2

/-! names of forms: k11 to k19 -/
theorem inD_strsP {x : Str} {l : List Str} {b : D} {h : MH} (e : seqOf h b = some (l.map .str)) (hb : ∀ z, b ≠ .str z) : inD (.str x) b h = some (decide (x ∈ l)) := by
  have h1 : ((l.map D.str).all flatD) = true := by
    rw [List.all_eq_true]
    intro d hd
    obtain ⟨y, _, rfl⟩ := List.mem_map.mp hd
    rfl
  have h2 : ((l.map D.str).any fun y => eqF y (.str x)) = decide (x ∈ l) := by
    rw [Bool.eq_iff_iff, List.any_eq_true, decide_eq_true_iff]
    constructor
    · rintro ⟨d, hd, e⟩
      obtain ⟨y, hy, rfl⟩ := List.mem_map.mp hd
      have : y = x := by simpa [eqF] using e
      exact this ▸ hy
    · intro hx
      exact ⟨.str x, List.mem_map.mpr ⟨x, hx, rfl⟩, by simp [eqF]⟩
  cases b with
  | str z => exact absurd rfl (hb z)
  | _ => simp only [inD, e, flatD, h1, and_self, if_true, h2]
theorem w_inLsP {x : Str} {l : List Str} {h : MH} {Q : D → MH → Prop} {E : XE} {i : Nat} (e : getL h i = some (l.map .str)) (q : Q (.bl (decide (x ∈ l))) h) : Sat (dIn (.str x) (.ref i) h) Q E := w_eq (by simp only [dIn, inD_strsP (x := x) (l := l) (b := .ref i) (h := h) e (fun z => by simp)]) q
/-- the letter of a number -/
def lt1 (i : Int) : Nat := 97 + (i % 26).toNat
def l1 (i : Int) : Str := ⟨#[lt1 i]⟩
theorem abc_cps : (Str.ofString "abcdefghijklmnopqrstuvwxyz").cps.toList = (List.range 26).map (97 + ·) := by decide +kernel
theorem lt1_ltr (i : Int) : Ltr (lt1 i) := by
  have := mod_in i (n := 26) (by decide)
  unfold Ltr lt1
  omega
theorem l1_ls (i : Int) : Ls 1 (l1 i) := ⟨rfl, fun d hd => by
  have : d = lt1 i := by simpa [l1] using hd
  rw [this]
  exact lt1_ltr i⟩
theorem w_ltr1 {i : Int} {h : MH} {Q : D → MH → Prop} {E : XE} (q : Q (.str (l1 i)) h) : Sat (dIx (.str (Str.ofString "abcdefghijklmnopqrstuvwxyz")) (.int (i % 26)) h) Q E := by
  have hm := mod_in i (n := 26) (by decide)
  obtain ⟨c, e1, e2⟩ := atI_in (l := (Str.ofString "abcdefghijklmnopqrstuvwxyz").cps.toList) hm.1 (by rw [← str_len, lt_len]; exact hm.2)
  rw [abc_cps, List.getElem?_map, List.getElem?_range (by omega)] at e2
  have : c = lt1 i := by
    simp at e2
    rw [← e2]
    rfl
  subst this
  exact w_ixS (by rw [lt_len]; decide) e1 q
theorem cutP_to {T : Str} {a : Int} (h0 : 0 ≤ a) : (cutS T none (some a)).cps.toList = T.cps.toList.take a.toNat := by
  obtain ⟨k, rfl⟩ := Int.eq_ofNat_of_zero_le h0
  rw [Int.toNat_natCast]
  unfold cutS
  rw [HT.sIx_none, HT.sIx_nat, List.drop_zero, Nat.sub_zero, str_len]
  rcases Nat.lt_or_ge k T.cps.toList.length with z | z
  · rw [Nat.min_eq_left (Nat.le_of_lt z)]
  · rw [Nat.min_eq_right z, List.take_length, List.take_of_length_le z]
theorem cutP_from {T : Str} {a : Int} (h0 : 0 ≤ a) : (cutS T (some a) none).cps.toList = T.cps.toList.drop a.toNat := by
  obtain ⟨k, rfl⟩ := Int.eq_ofNat_of_zero_le h0
  rw [Int.toNat_natCast]
  unfold cutS
  rw [HT.sIx_none, HT.sIx_nat, str_len]
  rcases Nat.lt_or_ge k T.cps.toList.length with z | z
  · rw [Nat.min_eq_left (Nat.le_of_lt z), List.take_of_length_le (by simp)]
  · rw [Nat.min_eq_right z, List.drop_of_length_le z, List.drop_length, List.take_nil]
theorem Ls.to {n : Nat} {x : Str} (hx : Ls n x) {a : Int} (h0 : 0 ≤ a) (h1 : a ≤ n) : Ls a.toNat (cutS x none (some a)) := by
  have hl := hx.1
  rw [str_len] at hl
  refine ⟨?_, fun c hc => ?_⟩
  · rw [str_len, cutP_to h0, List.length_take, hl]
    omega
  · rw [cutP_to h0] at hc
    exact hx.2 c (List.mem_of_mem_take hc)
theorem Ls.from {n : Nat} {x : Str} (hx : Ls n x) {a : Int} (h0 : 0 ≤ a) (h1 : a ≤ n) : Ls (n - a.toNat) (cutS x (some a) none) := by
  have hl := hx.1
  rw [str_len] at hl
  refine ⟨?_, fun c hc => ?_⟩
  · rw [str_len, cutP_from h0, List.length_drop, hl]
  · rw [cutP_from h0] at hc
    exact hx.2 c (List.mem_of_mem_drop hc)
theorem Ls.join {ys : List Str} (h : ∀ y ∈ ys, Ls 1 y) : Ls ys.length (Txt.join (Str.ofString "") ys) := by
  refine ⟨?_, fun c hc => ?_⟩
  · rw [str_len, join_cps]
    induction ys with
    | nil => rfl
    | cons y ys ih =>
      have h1 := (h y List.mem_cons_self).1
      have h2 := ih fun z hz => h z (List.mem_cons_of_mem _ hz)
      rw [str_len] at h1
      rw [List.map_cons, List.flatten_cons, List.length_append, h1, h2, List.length_cons]
      omega
  · rw [join_cps] at hc
    obtain ⟨l, hl, hc⟩ := List.mem_flatten.mp hc
    obtain ⟨y, hy, rfl⟩ := List.mem_map.mp hl
    exact (h y hy).2 c hc
theorem strs_P {S : Nat → Str → Prop} : ∀ {ys : List D}, (∀ (i : Nat) y, ys[i]? = some y → ∃ x, y = .str x ∧ S i x) → ∃ ns : List Str, ys = ns.map .str ∧ ∀ (i : Nat) x, ns[i]? = some x → S i x
  | [], _ => ⟨[], rfl, fun i x hx => by simp at hx⟩
  | y :: ys, h => by
    obtain ⟨x, rfl, hx⟩ := h 0 y rfl
    obtain ⟨ns, rfl, hn⟩ := strs_P (S := fun i => S (i + 1)) (ys := ys) fun i z hz => h (i + 1) z (by simpa using hz)
    refine ⟨x :: ns, rfl, fun i z hz => ?_⟩
    cases i with
    | zero => simp at hz; exact hz ▸ hx
    | succ i => exact hn i z (by simpa using hz)
theorem nodup_P {xs : List Str} (f : Str → Int) (h : ∀ (i : Nat) x, xs[i]? = some x → f x = (i : Int)) : xs.Nodup := by
  rw [List.nodup_iff_pairwise_ne, List.pairwise_iff_getElem]
  intro i j hi hj hij e
  have h1 := h i _ (List.getElem?_eq_getElem hi)
  have h2 := h j _ (List.getElem?_eq_getElem hj)
  rw [e] at h1
  omega
theorem nodup_P2 {xs : List Str} {α : Type} (f : Str → α) (g : Nat → α) (h : ∀ (i : Nat) x, xs[i]? = some x → f x = g i) (hg : ∀ i j : Nat, i < j → j < xs.length → g i ≠ g j) : xs.Nodup := by
  rw [List.nodup_iff_pairwise_ne, List.pairwise_iff_getElem]
  intro i j hi hj hij e
  have h1 := h i _ (List.getElem?_eq_getElem hi)
  have h2 := h j _ (List.getElem?_eq_getElem hj)
  rw [e] at h1
  exact hg i j hij hj (h1.symm.trans h2)
end
section
open PySem L2

local macro_rules | `(tactic| walk_at "lk") => `(tactic| first | with_reducible exact lkA | (apply lkB; decide +kernel; walk_at "lk"))
local macro_rules | `(tactic| walk_at "mk") => `(tactic| first | with_reducible exact mkA | (apply mkB; decide +kernel; walk_at "mk"))
local macro_rules | `(tactic| walk_at "fk") => `(tactic| first | with_reducible exact fkA | exact fkN | (apply fkB; decide +kernel; walk_at "fk"))
local macro_rules | `(tactic| walk_at "cs") => `(tactic| first | exact List.mem_cons_self | (apply List.mem_cons_of_mem; walk_at "cs"))
local macro_rules | `(tactic| walk_at "w") => `(tactic| first
  | with_reducible refine w_fld ?_
  | ((with_reducible refine w_fldK (c := ?_) (fs := ?_) (v := ?_) ?_ ?_ ?_ ?_); rotate_left; rotate_left; rotate_left; (with_reducible assumption); (walk_at "cs"); (walk_at "fk"))
  | with_reducible refine w_setFld ?_
  | with_reducible refine w_new ?_
  | with_reducible refine w_methI ?_
  | ((with_reducible refine w_methK (c := ?_) (fs := ?_) (F := ?_) ?_ ?_ ?_ ?_); rotate_left; rotate_left; rotate_left; (with_reducible assumption); (walk_at "mk"); (walk_at "fk"))
  | with_reducible refine w_isC ?_
  | ((with_reducible refine w_isCK (c := ?_) (fs := ?_) (k := ?_) ?_ ?_ ?_); rotate_left; rotate_left; rotate_left; (with_reducible assumption); (walk_at "lk"))
  | with_reducible refine w_callD ?_
  | with_reducible refine w_mDSet ?_
  | with_reducible refine w_eq (nN_non _) ?_
  | with_reducible refine w_eq (nN_int _ _) ?_
  | with_reducible refine w_eq (nN_tup _ _) ?_
  | with_reducible refine w_eq (nN_ref _ _) ?_
  | with_reducible refine w_eq (iN_non _) ?_
  | with_reducible refine w_eq (iN_int _ _) ?_
  | with_reducible refine w_eq (iN_tup _ _) ?_
  | with_reducible refine w_eq (iN_ref _ _) ?_)
/-! ### bare -/
abbrev tabB (n : Nat) : MTab := [((Str.ofString "One"), (m_One_bare_7e98d)), ((Str.ofString "Chain"), (m_scc_Chain_bare_b4656 n 0)), ((Str.ofString "Choice"), (m_scc_Chain_bare_b4656 n 1)), ((Str.ofString "Times"), (m_scc_Chain_bare_b4656 n 3)), ((Str.ofString "Mixed"), (m_scc_Chain_bare_b4656 n 2))]
def BareAt (n : Nat) : Prop := ∀ (p : PT) (d : D) (h : MH) (ρ : Slots), Pat h p d → p.dep ≤ n → p.sz ≤ 10000 → Sat (methK (Str.ofString "bare") (tabB n) mNil ρ d h) (fun y h' => h <+: h' ∧ y = .bl p.bare) noX
/-! ### sizes of what is made -/
/-! ### comprehensions whose parts are laid in the heap -/
/-- what stands stands on, but for the list at c -/
def Sv (c : Nat) (h1 h2 : MH) : Prop := (∃ l, h1[c]? = some (.lst l)) ∧ ∀ (j : Nat) (o : MO), j ≠ c → h1[j]? = some o → h2[j]? = some o
mutual
theorem Pat.kin {h h' : MH} (pr : ∀ (i : Nat) (c : Str) (fs : List (Str × D)), h[i]? = some (MO.ins c fs) → h'[i]? = some (MO.ins c fs)) : ∀ (p : PT) (d : D), Pat h p d → Pat h' p d
  | .one x, d, ⟨i, e1, e2⟩ => ⟨i, e1, pr _ _ _ e2⟩
  | .times p lo hi, d, ⟨i, e, e1, e2, e3⟩ => ⟨i, e, e1, pr _ _ _ e2, Pat.kin pr p e e3⟩
  | .chain l, d, ⟨es, ⟨i, e0, e1⟩, e2⟩ => ⟨es, ⟨i, e0, pr _ _ _ e1⟩, Pats.kin pr l es e2⟩
  | .choice l, d, ⟨es, ⟨i, e0, e1⟩, e2⟩ => ⟨es, ⟨i, e0, pr _ _ _ e1⟩, Pats.kin pr l es e2⟩
  | .mixed l, d, ⟨es, ⟨i, e0, e1⟩, e2⟩ => ⟨es, ⟨i, e0, pr _ _ _ e1⟩, Pats.kin pr l es e2⟩
theorem Pats.kin {h h' : MH} (pr : ∀ (i : Nat) (c : Str) (fs : List (Str × D)), h[i]? = some (MO.ins c fs) → h'[i]? = some (MO.ins c fs)) : ∀ (l : List PT) (es : List D), Pats h l es → Pats h' l es
  | [], _, e => e
  | p :: l, _, ⟨d, ds, e, h1, h2⟩ => ⟨d, ds, e, Pat.kin pr p d h1, Pats.kin pr l ds h2⟩
end
theorem Sv.kin {c : Nat} {h h' : MH} (s : Sv c h h') : ∀ (i : Nat) (k : Str) (fs : List (Str × D)), h[i]? = some (MO.ins k fs) → h'[i]? = some (MO.ins k fs) := fun i k fs e => by
  obtain ⟨⟨l, hl⟩, s⟩ := s
  refine s i _ ?_ e
  rintro rfl
  rw [e] at hl
  cases hl
theorem Pats.of {h : MH} {f : PT → PT} : ∀ {l : List PT} {ys : List D}, ys.length = l.length → (∀ (k : Nat) y, ys[k]? = some y → ∃ p, l[k]? = some p ∧ Pat h (f p) y) → Pats h (l.map f) ys
  | [], [], _, _ => rfl
  | [], _ :: _, e, _ => by simp at e
  | _ :: _, [], e, _ => by simp at e
  | p :: l, y :: ys, e, g => by
    obtain ⟨q, e1, e2⟩ := g 0 y rfl
    simp at e1
    subst e1
    exact ⟨y, ys, rfl, e2, Pats.of (by simpa using e) fun k z hz => by simpa using g (k + 1) z (by simpa using hz)⟩
/-! ### the pattern of what is told -/
theorem neS (s t : String) (h : (Str.ofString s == Str.ofString t) = false := by decide +kernel) : ¬ Str.ofString s = Str.ofString t := fun z => by rw [z] at h; simp at h
end
section
open PySem L2

local macro_rules | `(tactic| walk_at "lk") => `(tactic| first | with_reducible exact lkA | (apply lkB; decide +kernel; walk_at "lk"))
local macro_rules | `(tactic| walk_at "mk") => `(tactic| first | with_reducible exact mkA | (apply mkB; decide +kernel; walk_at "mk"))
local macro_rules | `(tactic| walk_at "fk") => `(tactic| first | with_reducible exact fkA | exact fkN | (apply fkB; decide +kernel; walk_at "fk"))
local macro_rules | `(tactic| walk_at "cs") => `(tactic| first | exact List.mem_cons_self | (apply List.mem_cons_of_mem; walk_at "cs"))
local macro_rules | `(tactic| walk_at "w") => `(tactic| first
  | with_reducible refine w_fld ?_
  | ((with_reducible refine w_fldK (c := ?_) (fs := ?_) (v := ?_) ?_ ?_ ?_ ?_); rotate_left; rotate_left; rotate_left; (with_reducible assumption); (walk_at "cs"); (walk_at "fk"))
  | with_reducible refine w_setFld ?_
  | with_reducible refine w_new ?_
  | with_reducible refine w_methI ?_
  | ((with_reducible refine w_methK (c := ?_) (fs := ?_) (F := ?_) ?_ ?_ ?_ ?_); rotate_left; rotate_left; rotate_left; (with_reducible assumption); (walk_at "mk"); (walk_at "fk"))
  | with_reducible refine w_isC ?_
  | ((with_reducible refine w_isCK (c := ?_) (fs := ?_) (k := ?_) ?_ ?_ ?_); rotate_left; rotate_left; rotate_left; (with_reducible assumption); (walk_at "lk"))
  | with_reducible refine w_callD ?_
  | with_reducible refine w_mDSet ?_
  | with_reducible refine w_eq (nN_non _) ?_
  | with_reducible refine w_eq (nN_int _ _) ?_
  | with_reducible refine w_eq (nN_tup _ _) ?_
  | with_reducible refine w_eq (nN_ref _ _) ?_
  | with_reducible refine w_eq (iN_non _) ?_
  | with_reducible refine w_eq (iN_int _ _) ?_
  | with_reducible refine w_eq (iN_tup _ _) ?_
  | with_reducible refine w_eq (iN_ref _ _) ?_)
/-! ### a reader in the heap -/
abbrev rdF (T : Str) (a : Nat) : List (Str × D) := [(Str.ofString "text", .str T), (Str.ofString "at", .int (a : Int))]
def Rd (ir : Nat) (T : Str) (h : MH) (r : List Nat) : Prop := ∃ a : Nat, h[ir]? = some (.ins (Str.ofString "PatternReader") (rdF T a)) ∧ a ≤ T.cps.toList.length ∧ T.cps.toList.drop a = r
/-- all stands on but the reader -/
def Kr (ir : Nat) (h h' : MH) : Prop := ∀ j o, j ≠ ir → h[j]? = some o → h'[j]? = some o
theorem Kr.refl {ir : Nat} {h : MH} : Kr ir h h := fun _ _ _ e => e
theorem Kr.trans {ir : Nat} {h h1 h2 : MH} (a : Kr ir h h1) (b : Kr ir h1 h2) : Kr ir h h2 := fun j o hj e => b j o hj (a j o hj e)
theorem Kr.pre {ir : Nat} {h h' : MH} (p : h <+: h') : Kr ir h h' := fun _ _ _ e => pre_get p e
theorem Kr.set {ir : Nat} {h : MH} {o : MO} : Kr ir h (h.set ir o) := fun j _ hj e => by rw [List.getElem?_set_ne (Ne.symm hj)]; exact e
theorem Rd.pre {ir : Nat} {T : Str} {h h' : MH} {r : List Nat} (x : Rd ir T h r) (p : h <+: h') : Rd ir T h' r := by
  obtain ⟨a, e1, e2⟩ := x
  exact ⟨a, pre_get p e1, e2⟩
def skp : List Nat → List Nat
  | [] => []
  | c :: r => if c = 32 then skp r else c :: r
theorem skp_skp : ∀ r, skp (skp r) = skp r
  | [] => rfl
  | c :: r => by
    by_cases z : c = 32
    · rw [skp, if_pos z, skp_skp r]
    · rw [skp, if_neg z, skp, if_neg z]
theorem sR_sp : Str.ofString " " = mS [32] := by decide +kernel
theorem cutR_one {T : Str} {a : Nat} (ha : a ≤ T.cps.toList.length) : cutS T (some (a : Int)) (some ((a : Int) + 1)) = mS ((T.cps.toList.drop a).take 1) := by
  have e : (a : Int) + 1 = ((a + 1 : Nat) : Int) := by omega
  unfold cutS mS
  rw [e, HT.sIx_nat, HT.sIx_nat, str_len, Nat.min_eq_left ha]
  rcases Nat.lt_or_ge a T.cps.toList.length with z | z
  · rw [Nat.min_eq_left (by omega), Nat.add_sub_cancel_left]
  · have : T.cps.toList.drop a = [] := List.drop_eq_nil_of_le z
    rw [this, List.take_nil, List.take_nil]
theorem cutR_nat {T : Str} {a b : Nat} (ha : a ≤ T.cps.toList.length) (hb : b ≤ T.cps.toList.length) : cutS T (some (a : Int)) (some (b : Int)) = mS ((T.cps.toList.drop a).take (b - a)) := by
  unfold cutS mS
  rw [HT.sIx_nat, HT.sIx_nat, str_len, Nat.min_eq_left ha, Nat.min_eq_left hb]
theorem putAtR {T : Str} {a b : Nat} : putFD (Str.ofString "at") (.int (b : Int)) (rdF T a) = rdF T b := by
  have n1 : ¬ Str.ofString "text" = Str.ofString "at" := neS "text" "at"
  show putFD (Str.ofString "at") (.int (b : Int)) [(Str.ofString "text", .str T), (Str.ofString "at", .int (a : Int))] = _
  rw [putFD, if_neg n1, putFD, if_pos rfl]
/-! ### tokens -/
def isLR (c : Nat) : Bool := decide (97 ≤ c ∧ c ≤ 122)
inductive RTok where
  | sym (c : Nat) | word (w : List Nat)
inductive Tz : List Nat → List RTok → Prop
  | fin {r : List Nat} : skp r = [] → Tz r []
  | sym {r r' : List Nat} {c : Nat} {ts : List RTok} : skp r = c :: r' → isLR c = false → Tz r' ts → Tz r (.sym c :: ts)
  | word {r r' w : List Nat} {ts : List RTok} : skp r = w ++ r' → w ≠ [] → (∀ c ∈ w, isLR c = true) → w.length ≤ 8 → (∀ c r'', r' = c :: r'' → isLR c = false) → Tz r' ts → Tz r (.word w :: ts)
theorem Tz.skp {r : List Nat} {ts : List RTok} (t : Tz r ts) : Tz (skp r) ts := by
  cases t with
  | fin e => exact .fin (by rw [skp_skp]; exact e)
  | sym e a b => exact .sym (by rw [skp_skp]; exact e) a b
  | word e a b c d f => exact .word (by rw [skp_skp]; exact e) a b c d f
/-- the first sign -/
def fst1 : List RTok → List Nat
  | [] => []
  | .sym c :: _ => [c]
  | .word w :: _ => w.take 1
def RdT (ir : Nat) (T : Str) (h : MH) (ts : List RTok) : Prop := ∃ r, Rd ir T h r ∧ Tz r ts
theorem RdT.pre {ir : Nat} {T : Str} {h h' : MH} {ts : List RTok} (x : RdT ir T h ts) (p : h <+: h') : RdT ir T h' ts := by
  obtain ⟨r, a, b⟩ := x
  exact ⟨r, a.pre p, b⟩
theorem RdT.cell {ir : Nat} {T : Str} {h : MH} {ts : List RTok} (x : RdT ir T h ts) : ∃ a : Nat, h[ir]? = some (.ins (Str.ofString "PatternReader") (rdF T a)) := by
  obtain ⟨r, ⟨a, e, _⟩, _⟩ := x
  exact ⟨a, e⟩
def RdS (ir : Nat) (T : Str) (h : MH) (ts : List RTok) : Prop := ∃ r, Rd ir T h r ∧ Tz r ts ∧ skp r = r
theorem RdS.t {ir : Nat} {T : Str} {h : MH} {ts : List RTok} (x : RdS ir T h ts) : RdT ir T h ts := by
  obtain ⟨r, a, b, _⟩ := x
  exact ⟨r, a, b⟩
/-- gone over, or not -/
def tookT (c : Nat) : List RTok → List RTok
  | .sym d :: ts => if d = c then ts else .sym d :: ts
  | ts => ts
def isT (c : Nat) : List RTok → Bool
  | .sym d :: _ => decide (d = c)
  | _ => false
def isW : List RTok → Bool
  | .word _ :: _ => true
  | _ => false
end
section
open PySem L2
def m_One_speaks_46a94 : List D → MH → R D := mFun 1 1
 (mRet (mLst (mCons (mFld [(Str.ofString "One")] (Str.ofString "form") (mVar 0)) (mNil))))
def m_Chain_speaks_3d286 (S : Nat → List D → MH → R D) : List D → MH → R D := mFun 1 1
 (mRet (mCall (S 4) (mCons (mFld [(Str.ofString "Chain"), (Str.ofString "Choice"), (Str.ofString "Mixed")] (Str.ofString "parts") (mVar 0)) (mNil))))
def m_Choice_speaks_61bc5 (S : Nat → List D → MH → R D) : List D → MH → R D := mFun 1 1
 (mRet (mCall (S 4) (mCons (mFld [(Str.ofString "Chain"), (Str.ofString "Choice"), (Str.ofString "Mixed")] (Str.ofString "parts") (mVar 0)) (mNil))))
def m_Mixed_speaks_bc979 (S : Nat → List D → MH → R D) : List D → MH → R D := mFun 1 1
 (mRet (mCall (S 4) (mCons (mFld [(Str.ofString "Chain"), (Str.ofString "Choice"), (Str.ofString "Mixed")] (Str.ofString "parts") (mVar 0)) (mNil))))
def m_Times_speaks_3b929 (S : Nat → List D → MH → R D) : List D → MH → R D := mFun 1 1
 (mRet (mMethI (Str.ofString "speaks") [((Str.ofString "One"), (m_One_speaks_46a94)), ((Str.ofString "Chain"), (S 0)), ((Str.ofString "Choice"), (S 1)), ((Str.ofString "Times"), (S 3)), ((Str.ofString "Mixed"), (S 2))] (mFld [(Str.ofString "Times")] (Str.ofString "part") (mVar 0)) (mNil)))
def m_all_spoken_50ba5 (S : Nat → List D → MH → R D) : List D → MH → R D := mFun 1 4
 (mSeq (mAsg 1 (mDict0))
 (mSeq (mFor (mIter (mVar 0)) (mgName 2)
 (mFor (mIter (mMethI (Str.ofString "speaks") [((Str.ofString "One"), (m_One_speaks_46a94)), ((Str.ofString "Chain"), (S 0)), ((Str.ofString "Choice"), (S 1)), ((Str.ofString "Times"), (S 3)), ((Str.ofString "Mixed"), (S 2))] (mVar 2) (mNil))) (mgName 3)
 (mDSet (mVar 1) (mVar 3) (mC (.bl true)))))
 (mRet (mCall dSortK (mCons (mVar 1) (mNil))))))
def m_scc_Chain_speaks_d27eb : Nat → Nat → List D → MH → R D
 | 0 => fun _ _ _ => .bad
 | n + 1 => fun i => match i with
   | 0 => m_Chain_speaks_3d286 (m_scc_Chain_speaks_d27eb n)
   | 1 => m_Choice_speaks_61bc5 (m_scc_Chain_speaks_d27eb n)
   | 2 => m_Mixed_speaks_bc979 (m_scc_Chain_speaks_d27eb n)
   | 3 => m_Times_speaks_3b929 (m_scc_Chain_speaks_d27eb n)
   | 4 => m_all_spoken_50ba5 (m_scc_Chain_speaks_d27eb n)
   | _ => fun _ _ => .bad
end
end Mi


/-! Sets of ints and texts: set(xs) of a list, sorted of it, its length. -/
namespace Mi
open PySem L2 PySem.Spec PyProof.Rows
/-! ### what was met, each once -/
instance memK (k : Key) (L : List Key) : Decidable (k ∈ L) := decidable_of_iff ((L.any fun j => decide (j = k)) = true) (by
  rw [List.any_eq_true]
  exact ⟨fun ⟨x, h1, h2⟩ => of_decide_eq_true h2 ▸ h1, fun h => ⟨k, h, decide_eq_true rfl⟩⟩)
def onceK (l : List Key) : List Key := l.foldl (fun L k => if k ∈ L then L else L ++ [k]) []
/-! ### the set in the heap -/
def kyOf (e : Int × Value) : Key := match e.2 with
  | .int k _ => .inl k
  | .str x _ => .inr x
  | _ => .inl 0
def GdE (w : World) (e : Int × Value) : Prop := ∃ k, keyIs k e.2 = true ∧ e.1 = keyH w k
structure SetX (w : World) (h : Heap) (a : Addr) (L : List Key) (o : Obj) (es : Array (Int × Value)) (ep : Nat) (t : SetTable) : Prop where
  ob : h.get? a = some o
  ex : o.ExactSet
  da : o.data = .set es ep t
  gd : ∀ e ∈ es.toList, GdE w e
  pm : (es.toList.map kyOf).Perm L
  nd : L.Nodup
  sz : L.length < scanBound
  ft : t.fits es.size = true
  rs : Ris t.place.toList
  ld : w.params.followText "set-order" = true ∨ t.led = true
def SetL (w : World) (h : Heap) (a : Addr) (L : List Key) : Prop := ∃ o es ep t, SetX w h a L o es ep t
section
variable {P : Program} {w : World} {A : Around} {E : Value → Shared → Prop} {s : Shared} {a : Addr} {L : List Key}
theorem SetX.el {h : Heap} {o : Obj} {es : Array (Int × Value)} {ep : Nat} {t : SetTable} (R : SetX w h a L o es ep t) : ElemsOf (mixKind P w) es.toList := fun e he => by
  obtain ⟨k, h1, h2⟩ := R.gd e he
  refine ⟨⟨k, h1, h2⟩, ?_⟩
  rcases keyIs_shape h1 with ⟨j, t, rfl, q⟩ | ⟨x, t, rfl, q⟩ <;> rw [q] <;> rfl
theorem SetX.len {h : Heap} {o : Obj} {es : Array (Int × Value)} {ep : Nat} {t : SetTable} (R : SetX w h a L o es ep t) : es.size = L.length := by
  rw [← R.pm.length_eq, List.length_map, Array.length_toList]
theorem SetL.keep {h h' : Heap} (R : SetL w h a L) (k : ∀ o, h.get? a = some o → h'.get? a = some o) : SetL w h' a L := by
  obtain ⟨o, es, ep, t, r⟩ := R
  exact ⟨o, es, ep, t, { r with ob := k o r.ob }⟩
end
/-! ### set(xs) -/
section
variable {prog : Program} {w : World} {A : Around} {R : Result → Shared → Prop} {I : Addr} {fp wr : List Addr} {G : Array GenState → Array GenState → Prop} {n : Nat} {Pv : Nat → Value → Prop} {St : Nat → Shared → Prop}
end
def emptyS (w : World) : Obj := { cls := .type "set", dict := none, data := .set #[] 0 (.fresh 0 0 (!w.params.followText "set-order")) }
section
variable {P : Program} {w : World} {A : Around} {E : Value → Shared → Prop} {s : Shared}
set_option maxHeartbeats 3200000 in
end
/-! ### the mirror -/
def keysD : List D → Option (List Key)
  | [] => some []
  | d :: l => match keyD d, keysD l with
    | some k, some r => some (k :: r)
    | _, _ => none
def mLenSet (a : ME) : ME := fun ρ h => (a ρ h).bind fun x h1 => match x with
  | .ref i => match (getL h1 i).bind keysD with
    | some ks => if ks.length < 4000 then .ok (.int (onceK ks).length) h1 else .bad
    | none => .bad
  | _ => .bad
def mSortSet (a : ME) : ME := fun ρ h => (a ρ h).bind fun x h1 => match x with
  | .ref i => match (getL h1 i).bind allStr with
    | some ys => if ys.length < 4000 then .ok (.ref h1.length) (h1 ++ [.lst ((sortS (ys.eraseDups)).map .str)]) else .bad
    | none => .bad
  | _ => .bad
section
variable {g : G} {H : Hp} {μ : List Addr}
end
section
variable {X : Cx} {g : G} {W : WX} {ma : ME} {a : Expr} {p p2 q pos : Pos}
end
/-! ### as calls -/
def dLenSet : List D → MH → R D
  | [x], h1 => match x with
    | .ref i => match (getL h1 i).bind keysD with
      | some ks => if ks.length < 4000 then .ok (.int (onceK ks).length) h1 else .bad
      | none => .bad
    | _ => .bad
  | _, _ => .bad
def dSortSet : List D → MH → R D
  | [x], h1 => match x with
    | .ref i => match (getL h1 i).bind allStr with
      | some ys => if ys.length < 4000 then .ok (.ref h1.length) (h1 ++ [.lst ((sortS (ys.eraseDups)).map .str)]) else .bad
      | none => .bad
    | _ => .bad
  | _, _ => .bad
section
variable {X : Cx} {g : G} {W : WX} {ma : ME} {a : Expr} {p p2 q pos : Pos}
end
end Mi

/-! list(d.values()). -/
namespace Mi
open PySem L2 PySem.Spec PyProof.Rows
def mVals (a : ME) : ME := fun ρ h => (a ρ h).bind fun x h1 => match getK h1 x with
  | some l => .ok (.ref h1.length) (h1 ++ [.lst (l.map (·.2))])
  | none => .bad
section
variable {X : Cx} {g : G} {W : WX} {ma : ME} {a : Expr} {p apos q pos : Pos}
end
def dVals : List D → MH → R D
  | [x], h1 => match getK h1 x with
    | some l => .ok (.ref h1.length) (h1 ++ [.lst (l.map (·.2))])
    | none => .bad
  | _, _ => .bad
section
variable {X : Cx} {g : G} {W : WX} {ma : ME} {a : Expr} {p apos q pos : Pos}
end
/-! ### l.index(x), items of any depth -/
def dLIdx : D → List D → MH → R D
  | .ref i, [y], h => match pyOf 60 h y, pyOf 60 h (.ref i) with
    | some d, some (.list es) => if SeqAt.shaped (.list es) = true ∧ SeqAt.shaped d = true then match es.findIdx? fun z => PyData.eqv z d with
      | some j => .ok (.int j) h
      | none => .bad else .bad
    | _, _ => .bad
  | _, _, _ => .bad
theorem sm_lidx {g : G} : SM g (rIndexD g.K) dLIdx := by
  intro H μ h x xs a ds Q W hr va vs bk
  unfold dLIdx at bk
  split at bk
  · rename_i i y
    cases va with
    | @ref p _ hi =>
      cases vs with
      | cons v1 v2 =>
        cases v2
        split at bk
        · rename_i d es e1 e2
          split at bk
          · rename_i c
            split at bk
            · rename_i j ej
              obtain ⟨hj, pj, nj⟩ := List.findIdx?_eq_some_iff_getElem.mp ej
              refine ⟨p, _, d, es, j, es[j], rfl, rfl, dp_of hr _ _ _ _ (.ref hi) e2, dp_of hr _ _ _ _ v1 e1, c.1, c.2, List.getElem?_eq_getElem hj, pj, fun m z' hm hz => ?_, bk.val hr (.int _)⟩
              have hml : m < es.length := by omega
              rw [List.getElem?_eq_getElem hml] at hz
              cases hz
              simpa using nj m hm
            · exact bk.elim
          · exact bk.elim
        · exact bk.elim
  · exact bk.elim
end Mi

/-! Dicts whose keys are tuples of whole numbers, texts, None, truths and such tuples: in, not in, d[k], d[k] = v, dict(pairs). -/
namespace Mi
open PySem L2 PySem.Spec PyProof.Rows
/-! ### keys -/
mutual
def NkV (K : PySem.W.Frag) (H : Hp) : NestedKey → V → Prop
  | .none, v => v = .non
  | .num i, v => v = .int i ∨ ∃ b, v = .bl b ∧ i = (if b = true then 1 else 0)
  | .text x, v => v = .str x
  | .tup ks, v => ∃ p xs, v = .ref p ∧ SqT K H p xs ∧ NkVs K H ks xs
def NkVs (K : PySem.W.Frag) (H : Hp) : List NestedKey → List V → Prop
  | [], vs => vs = []
  | k :: ks, vs => ∃ v r, vs = v :: r ∧ NkV K H k v ∧ NkVs K H ks r
end
mutual
theorem nkv_of {g : G} {H : Hp} {μ : List Addr} : ∀ (d : D) (v : V) (k : NestedKey), VR g H μ v d → nkD d = some k → NkV g.K H k v
  | .non, v, k, a, e => by cases a; cases e; exact rfl
  | .bl b, v, k, a, e => by cases a; cases e; exact .inr ⟨b, rfl, rfl⟩
  | .int i, v, k, a, e => by cases a; cases e; exact .inl rfl
  | .str x, v, k, a, e => by cases a; cases e; exact rfl
  | .tup l, v, k, a, e => by
    cases a with
    | tup hs vs =>
      simp only [nkD, Option.map_eq_some_iff] at e
      obtain ⟨ks, e, rfl⟩ := e
      exact ⟨_, _, rfl, hs.sq, nkvs_of l _ ks vs e⟩
  | .ref _, v, k, a, e => by cases e
  | .xo _ _ _, v, k, a, e => by cases e
theorem nkvs_of {g : G} {H : Hp} {μ : List Addr} : ∀ (l : List D) (vs : List V) (ks : List NestedKey), VRs g H μ vs l → nkDs l = some ks → NkVs g.K H ks vs
  | [], vs, ks, a, e => by cases a; cases e; exact rfl
  | d :: l, vs, ks, a, e => by
    cases a with
    | cons a b =>
      unfold nkDs at e
      split at e
      · rename_i k r e1 e2
        cases e
        exact ⟨_, _, rfl, nkv_of d _ k a e1, nkvs_of l _ r b e2⟩
      · cases e
end
section
variable {X : Cx} {pins : List (Addr × Obj)} {σ : L2.St} {H : Hp} {s : Shared}
end
/-! ### the dict in the heap -/
abbrev NE := List (NestedKey × Addr × Value)
def NKeys (K : PySem.W.Frag) (H : Hp) (xs : NE) : Prop := ∀ e ∈ xs, NkV K H e.1 (.ref e.2.1) ∧ e.1.depth ≤ 8
/-- a dict with such keys, or an empty one -/
def NDct (w : World) (H : Hp) (p : Addr) (xs : NE) : Prop := H p = some (DN w p xs) ∨ (H p = some (.dK []) ∧ xs = [])
section
variable {X : Cx} {pins : List (Addr × Obj)} {σ : L2.St} {H : Hp} {s : Shared} {p : Addr} {xs : NE}
end
def rNIn (K : PySem.W.Frag) (w : World) : R2 := fun x y H Q => ∃ a p k xs, x = .ref a ∧ y = .ref p ∧ NkV K H k (.ref a) ∧ k.depth ≤ 8 ∧ NDct w H p xs ∧ NKeys K H xs ∧ Q (.bl (atKey xs k).isSome) H
def rNNotIn (K : PySem.W.Frag) (w : World) : R2 := fun x y H Q => ∃ a p k xs, x = .ref a ∧ y = .ref p ∧ NkV K H k (.ref a) ∧ k.depth ≤ 8 ∧ NDct w H p xs ∧ NKeys K H xs ∧ Q (.bl (!(atKey xs k).isSome)) H
def rNIx (K : PySem.W.Frag) (w : World) : R2 := fun x y H Q => ∃ a p k xs c u v, y = .ref a ∧ x = .ref p ∧ NkV K H k (.ref a) ∧ k.depth ≤ 8 ∧ NDct w H p xs ∧ NKeys K H xs ∧ atKey xs k = some (c, u) ∧ RelV v u ∧ Q v H
def rNSet (K : PySem.W.Frag) (w : World) : V → V → V → Hp → (Hp → Prop) → Prop := fun o i v H Q => ∃ a p k xs, o = .ref p ∧ i = .ref a ∧ NkV K H k (.ref a) ∧ k.depth ≤ 8 ∧ NDct w H p xs ∧ NKeys K H xs ∧ xs.length < sizeLine ∧
  ∀ u, RelV v u → Q (upd H p (DN w p (storedH xs k a u)))
section
variable {X : Cx}
end
/-! ### the mirror -/
def nkT (d : D) : Option NestedKey := match d with
  | .tup l => match nkD (.tup l) with
    | some k => if k.depth ≤ 8 then some k else none
    | none => none
  | _ => none
def getN (h : MH) (x : D) : Option (List (NestedKey × D)) := match x with
  | .ref i => match h[i]? with
    | some (.dN l) => some l
    | some (.dK []) => some []
    | _ => none
  | _ => none
def valN (kvs : List (NestedKey × D)) (k : NestedKey) : Option D := (kvs.find? fun x => decide (x.1 = k)).map (·.2)
def putN (kvs : List (NestedKey × D)) (k : NestedKey) (d : D) : List (NestedKey × D) :=
  if (valN kvs k).isSome = true then kvs.map (fun x => if x.1 = k then (x.1, d) else x) else kvs ++ [(k, d)]
section
variable {g : G} {H : Hp} {μ : List Addr} {h : MH}
theorem NR.keys : ∀ {xs : NE} {kvs : List (NestedKey × D)}, NR g H μ xs kvs → NKeys g.K H xs
  | _, _, .nil => fun e he => by simp at he
  | _, _, .cons a e l r v b => fun x hx => by
    rcases List.mem_cons.mp hx with rfl | hx
    · exact ⟨nkv_of _ _ _ a e, l⟩
    · exact NR.keys b x hx
theorem NR.val (k : NestedKey) : ∀ {xs : NE} {kvs : List (NestedKey × D)}, NR g H μ xs kvs → (atKey xs k = none ∧ valN kvs k = none) ∨ ∃ a u v d, atKey xs k = some (a, u) ∧ valN kvs k = some d ∧ RelV v u ∧ VR g H μ v d
  | _, _, .nil => .inl ⟨rfl, rfl⟩
  | _, _, @NR.cons _ _ _ k' a u e d v xs ds va ek l r vd b => by
    by_cases c : k' = k
    · refine .inr ⟨a, u, v, d, ?_, ?_, r, vd⟩
      · simp [atKey, List.find?_cons, c]
      · simp [valN, List.find?_cons, c]
    · have e1 : atKey ((k', a, u) :: xs) k = atKey xs k := by simp [atKey, List.find?_cons, c]
      have e2 : valN ((k', d) :: ds) k = valN ds k := by simp [valN, List.find?_cons, c]
      rw [e1, e2]
      exact NR.val k b
theorem NR.some_eq (k : NestedKey) {xs : NE} {kvs : List (NestedKey × D)} (r : NR g H μ xs kvs) : (atKey xs k).isSome = (valN kvs k).isSome := by
  rcases r.val k with ⟨e1, e2⟩ | ⟨a, u, v, d, e1, e2, _⟩ <;> rw [e1, e2] <;> rfl
theorem NR.repl (k : NestedKey) {u : Value} {v : V} {d : D} (ru : RelV v u) (vd : VR g H μ v d) : ∀ {xs : NE} {kvs : List (NestedKey × D)}, NR g H μ xs kvs → NR g H μ (xs.map (putAt k u)) (kvs.map fun x => if x.1 = k then (x.1, d) else x)
  | _, _, .nil => .nil
  | _, _, @NR.cons _ _ _ k' a u' e d' v' xs ds va ek l r vd' b => by
    rw [List.map_cons, List.map_cons]
    by_cases c : k' = k
    · simp only [putAt, c, if_true]
      exact .cons va (c ▸ ek) (c ▸ l) ru vd (NR.repl k ru vd b)
    · simp only [putAt, c, if_false]
      exact .cons va ek l r vd' (NR.repl k ru vd b)
theorem NR.snoc {k : NestedKey} {a : Addr} {u : Value} {e d : D} {v : V} (va : VR g H μ (.ref a) e) (ek : nkD e = some k) (l : k.depth ≤ 8) (ru : RelV v u) (vd : VR g H μ v d) : ∀ {xs : NE} {kvs : List (NestedKey × D)}, NR g H μ xs kvs → NR g H μ (xs ++ [(k, a, u)]) (kvs ++ [(k, d)])
  | _, _, .nil => .cons va ek l ru vd .nil
  | _, _, .cons a1 e1 l1 r1 v1 b => .cons a1 e1 l1 r1 v1 (NR.snoc va ek l ru vd b)
theorem NR.put {k : NestedKey} {a : Addr} {u : Value} {e d : D} {v : V} (va : VR g H μ (.ref a) e) (ek : nkD e = some k) (l : k.depth ≤ 8) (ru : RelV v u) (vd : VR g H μ v d) {xs : NE} {kvs : List (NestedKey × D)} (r : NR g H μ xs kvs) : NR g H μ (storedH xs k a u) (putN kvs k d) := by
  unfold storedH putN
  rw [r.some_eq k]
  split
  · exact r.repl k ru vd
  · exact r.snoc va ek l ru vd
theorem NR.len : ∀ {xs : NE} {kvs : List (NestedKey × D)}, NR g H μ xs kvs → xs.length = kvs.length
  | _, _, .nil => rfl
  | _, _, .cons _ _ _ _ _ b => by rw [List.length_cons, List.length_cons, NR.len b]
end
def dNIn (a b : D) (h : MH) : R D := match nkT a, getN h b with
  | some k, some l => .ok (.bl (valN l k).isSome) h
  | _, _ => .bad
def dNNotIn (a b : D) (h : MH) : R D := match nkT a, getN h b with
  | some k, some l => .ok (.bl (!(valN l k).isSome)) h
  | _, _ => .bad
def dNIx (a b : D) (h : MH) : R D := match getN h a, nkT b with
  | some l, some k => match valN l k with
    | some v => .ok v h
    | none => .bad
  | _, _ => .bad
def dNSet (x y d : D) (h : MH) : R Unit := match x, nkT y, getN h x with
  | .ref i, some k, some l => if l.length < 1000000 then .ok () (h.set i (.dN (putN l k d))) else .bad
  | _, _, _ => .bad
/-- any key: an int, a text, or a tuple of such -/
def dAIn (a b : D) (h : MH) : R D := match keyD a with
  | some _ => dDIn a b h
  | none => dNIn a b h
def dANotIn (a b : D) (h : MH) : R D := match keyD a with
  | some _ => dDNotIn a b h
  | none => dNNotIn a b h
def dAIx (a b : D) (h : MH) : R D := match keyD b with
  | some _ => dDIx a b h
  | none => dNIx a b h
def dASet (x y d : D) (h : MH) : R Unit := match keyD y with
  | some _ => dDSet x y d h
  | none => dNSet x y d h
def mASet (o i e : ME) : MS := fun ρ h => (e ρ h).out ρ fun d h1 => (o ρ h1).out ρ fun x h2 => (i ρ h2).out ρ fun y h3 => (dASet x y d h3).out ρ fun _ h4 => .nx ρ h4
def rAIn (K : PySem.W.Frag) (w : World) : R2 := fun x y H Q => rDIn x y H Q ∨ rNIn K w x y H Q
def rANotIn (K : PySem.W.Frag) (w : World) : R2 := fun x y H Q => rDNotIn x y H Q ∨ rNNotIn K w x y H Q
def rDIxK : R2 := fun x y H Q => ∃ a k kvs v, x = .ref a ∧ y = kV k ∧ H a = some (.dK kvs) ∧ valV kvs k = some v ∧ Q v H
def rAIx (K : PySem.W.Frag) (w : World) : R2 := fun x y H Q => rDIxK x y H Q ∨ rNIx K w x y H Q
section
variable {X : Cx} {g : G} {W : WX}
variable {o i e : Expr} {mo mi me : ME} {pos p2 : Pos}
end
end Mi

/-! dict(xs) of a list of pairs whose firsts are tuples. -/
namespace Mi
open PySem L2 PySem.Spec PyProof.Rows
/-- a pair as it stands: its address, the key's, the key, the value -/
structure PR4 where
  t : Addr
  a : Addr
  k : NestedKey
  v : V
abbrev PRU := List (PR4 × Value)
def neOf (T : PRU) : NE := T.map fun q => (q.1.k, q.1.a, q.2)
def rDictP (K : PySem.W.Frag) (w : World) : List V → Hp → VK → Prop := fun xs H Q => ∃ (l : Addr) (T : List PR4), xs = [V.ref l] ∧ SqL K H l (T.map fun r => V.ref r.t) ∧ (∀ r ∈ T, SqT K H r.t [V.ref r.a, r.v] ∧ NkV K H r.k (.ref r.a) ∧ r.k.depth ≤ 8) ∧ T.length < sizeLine ∧
  ∀ p (TU : PRU), H p = none → TU.map (·.1) = T → (∀ x ∈ TU, RelV x.1.v x.2) → Q (.ref p) (upd H p (DN w p (PySem.storedAllH [] (neOf TU))))
section
variable {X : Cx}
end
/-! ### the mirror -/
def pairsN : List D → Option (List (NestedKey × D))
  | [] => some []
  | .tup [kd, vd] :: l => match nkT kd, pairsN l with
    | some k, some r => some ((k, vd) :: r)
    | _, _ => none
  | _ :: _ => none
def foldN (acc : List (NestedKey × D)) (l : List (NestedKey × D)) : List (NestedKey × D) := l.foldl (fun a p => putN a p.1 p.2) acc
def dDictP : List D → MH → R D
  | [.ref i], h => match (getL h i).bind pairsN with
    | some l => if l.length < 1000000 then .ok (.ref h.length) (h ++ [.dN (foldN [] l)]) else .bad
    | none => .bad
  | _, _ => .bad
inductive PRR (g : G) (H : Hp) (μ : List Addr) : List PR4 → List (NestedKey × D) → Prop
  | nil : PRR g H μ [] []
  | cons {r : PR4} {e d : D} {T : List PR4} {l : List (NestedKey × D)} : VR g H μ (.ref r.a) e → nkD e = some r.k → r.k.depth ≤ 8 → VR g H μ r.v d → PRR g H μ T l → PRR g H μ (r :: T) ((r.k, d) :: l)
section
variable {g : G} {H H1 : Hp} {μ μ1 : List Addr}
theorem PRR.mono (m : Mon g H H1 μ μ1) : ∀ {T : List PR4} {l : List (NestedKey × D)}, PRR g H μ T l → PRR g H1 μ1 T l
  | _, _, .nil => .nil
  | _, _, .cons a b c d e => .cons (a.mono m) b c (d.mono m) (PRR.mono m e)
theorem PRR.len : ∀ {T : List PR4} {l : List (NestedKey × D)}, PRR g H μ T l → T.length = l.length
  | _, _, .nil => rfl
  | _, _, .cons _ _ _ _ e => by rw [List.length_cons, List.length_cons, PRR.len e]
end
/-! ### the calculus -/
end Mi

/-! A def of a class, called through the class: Base.__init__(self). -/
namespace Mi
open PySem L2 PySem.Spec PyProof.Rows ClX
def Dc (K : PySem.W.Frag) (mg : Str → Option Value) (c x qual : Str) (st : Stmt) (ps : List Str) : Prop :=
  ∃ C mc f fd, mg c = some (.ref C) ∧ CRead K C mc ∧ PySem.W.findCls K (.ref C) mc x = some (.val (.ref f)) ∧ Fun K x qual st f fd ∧ Binds K fd ps []
def CfOf (P : Program) (w : World) (K : PySem.W.Frag) (mg : Str → Option Value) (base : Heap) (c x : Str) (k : Nat) (F : List D → MH → R D) : Prop :=
  ∃ C mc f fd ps, mg c = some (.ref C) ∧ CRead K C mc ∧ PySem.W.findCls K (.ref C) mc x = some (.val (.ref f)) ∧ PySem.W.keepIn K (.ref f) = true ∧ FnOk P w K mg base (L2.CX P w) k f fd ps (spM (gOf w K) F) ∧ Binds K fd ps []
section
variable {P : Program} {w : World} {K : PySem.W.Frag} {mg : Str → Option Value} {base : Heap} {h : Heap}
theorem CfOf.mono {c x : Str} {F : List D → MH → R D} {j k : Nat} (e : CfOf P w K mg base c x j F) (h : j ≤ k) : CfOf P w K mg base c x k F := by
  obtain ⟨C, mc, f, fd, ps, h1, h2, h3, h4, h5, h6⟩ := e
  exact ⟨C, mc, f, fd, ps, h1, h2, h3, h4, h5.mono h, h6⟩
end
section
variable {X : Cx} {W : WX} {e : Expr} {es : List Expr} {mr : MA} {p pos apos : Pos} {c x : Str}
end
end Mi

/-! list.insert(i, x), list.pop(i), i not below 0. -/
namespace Mi
open PySem L2 PySem.Spec PyProof.Rows
def rInsert : V → List V → Hp → VK → Prop := fun x vs H Q => ∃ (l : Addr) (xs : List V) (i : Int) (y : V), x = .ref l ∧ vs = [.int i, y] ∧ H l = some (.lst xs) ∧ xs.length < sizeLine ∧ 0 ≤ i ∧ i < 2 ^ 63 ∧
    Q .non (upd H l (.lst (xs.take i.toNat ++ [y] ++ xs.drop i.toNat)))
theorem VRs.at {g : G} {H : Hp} {μ : List Addr} : ∀ {vs : List V} {ds : List D} {n : Nat} {d : D}, VRs g H μ vs ds → ds[n]? = some d → ∃ v, vs[n]? = some v ∧ VR g H μ v d
  | _, _, n, d, .nil, e => by simp at e
  | _, _, 0, d, .cons a b, e => by simp at e; subst e; exact ⟨_, rfl, a⟩
  | _, _, n + 1, d, .cons a b, e => by
    obtain ⟨v, h1, h2⟩ := VRs.at (n := n) b (by simpa using e)
    exact ⟨v, by simpa using h1, h2⟩
def dInsert : D → List D → MH → R D
  | .ref i, [.int k, d], h => match h[i]? with
    | some (.lst l) => if (0 ≤ k ∧ k < 9223372036854775808) ∧ l.length < 1000000 then .ok .non (h.set i (.lst (l.take k.toNat ++ [d] ++ l.drop k.toNat))) else .bad
    | _ => .bad
  | _, _, _ => .bad
def dPopI : D → List D → MH → R D
  | .ref i, [.int k], h => match h[i]? with
    | some (.lst l) => if 0 ≤ k ∧ k < 9223372036854775808 then match l[k.toNat]? with
      | some d => .ok d (h.set i (.lst (l.eraseIdx k.toNat)))
      | none => .bad else .bad
    | _ => .bad
  | _, _, _ => .bad
/-! ### the calculus -/
end Mi

/-! t[::-1], a tuple or a list. -/
namespace PySem.W
open PySem.Calls PyProof.Rows HT
end PySem.W
namespace Mi
open PySem L2 PySem.Spec PyProof.Rows PySem.W HT
section
variable {prog : Program} {w : World} {A : Around} {E : Value → Shared → Prop} {s : Shared}
end
def tRevT (K : PySem.W.Frag) (te : TE) : TE := fun σ H Q => te σ H fun x H1 => ∃ a xs, x = .ref a ∧ SqT K H1 a xs ∧ ∀ (p : Addr) (ob : Obj), H1 p = none → ob.dict = none → Q (.ref p) (upd H1 p (.frz ob (.tup xs.reverse)))
def dRevA (x : D) (h : MH) : R D := match x with
  | .tup l => .ok (.tup l.reverse) h
  | x => dRevL x h
def mRevA (a : ME) : ME := mUn dRevA a
end Mi

/-! A comprehension over a dict's keys (the dict is locked as long as it runs); sorted and min of a list of pairs of whole numbers; sorted of a tuple of texts. -/
namespace Mi
open PySem L2 PySem.Spec PyProof.Rows
/-! ### what stands on when a locked thing is free again -/
structure Mn (g : G) (H H' : Hp) (μ μ' : List Addr) : Prop where
  pre : μ <+: μ'
  tups : ∀ p xs, Tk g.K H p xs → Tk g.K H' p xs
  xs : ∀ p u, isX p u → H p = some u → H' p = some u
section
variable {g : G} {H H1 : Hp} {μ μ1 : List Addr}
mutual
theorem VR.mn (m : Mn g H H1 μ μ1) : ∀ {v : V} {d : D}, VR g H μ v d → VR g H1 μ1 v d
  | _, _, .non => .non
  | _, _, .bl b => .bl b
  | _, _, .int i => .int i
  | _, _, .str x => .str x
  | _, _, .ref h => .ref (by
      obtain ⟨t, e⟩ := m.pre
      rw [← e, List.getElem?_append_left (List.getElem?_eq_some_iff.mp h).1]
      exact h)
  | _, _, .tup h hs => .tup (m.tups _ _ h) (VRs.mn m hs)
  | _, _, .xo h c f v => .xo (m.xs _ _ (.inl ⟨_, _, rfl⟩) h) c (by
      rcases f with f | ⟨dd, fv, e1, e2, e3⟩
      · exact .inl f
      · exact .inr ⟨dd, fv, e1, m.xs _ _ (.inr ⟨_, rfl⟩) e2, e3⟩) (VR.mn m v)
theorem VRs.mn (m : Mn g H H1 μ μ1) : ∀ {vs : List V} {ds : List D}, VRs g H μ vs ds → VRs g H1 μ1 vs ds
  | _, _, .nil => .nil
  | _, _, .cons a b => .cons (VR.mn m a) (VRs.mn m b)
end
theorem KR.mn {κ : Type} (m : Mn g H H1 μ μ1) : ∀ {vs : List (κ × V)} {ds : List (κ × D)}, KR g H μ vs ds → KR g H1 μ1 vs ds
  | _, _, .nil => .nil
  | _, _, .cons a b => .cons (a.mn m) (KR.mn m b)
theorem NR.mn (m : Mn g H H1 μ μ1) : ∀ {xs : List (NestedKey × Addr × Value)} {ds : List (NestedKey × D)}, NR g H μ xs ds → NR g H1 μ1 xs ds
  | _, _, .nil => .nil
  | _, _, .cons a e l r v b => .cons (a.mn m) e l r (v.mn m) (NR.mn m b)
theorem TR.mn (m : Mn g H H1 μ μ1) : ∀ {xs : List (NestedKey × Addr × Value)} {ds : List (D × D)}, TR g H μ xs ds → TR g H1 μ1 xs ds
  | _, _, .nil => .nil
  | _, _, .cons a e l r v b => .cons (a.mn m) e l r (v.mn m) (TR.mn m b)
theorem OR.mn_at {p : Addr} {o : MO} (m : Mn g H H1 μ μ1) (k : ∀ u, H p = some u → H1 p = some u) (h : OR g H μ p o) : OR g H1 μ1 p o := by
  cases o with
  | lst ds => obtain ⟨xs, a, b⟩ := h; exact ⟨xs, k _ a, b.mn m⟩
  | rol ds =>
    obtain ⟨xs, a, b⟩ := h
    refine ⟨xs, ?_, b.mn m⟩
    rcases a with ⟨u, a⟩ | a
    · exact .inl ⟨u, k _ a⟩
    · exact .inr a
  | dK kvs => obtain ⟨xs, a, b⟩ := h; exact ⟨xs, k _ a, b.mn m⟩
  | ins c fs => obtain ⟨C, dx, xs, a, c', b⟩ := h; exact ⟨C, dx, xs, k _ a, c', b.mn m⟩
  | dN kvs => obtain ⟨xs, a, b⟩ := h; exact ⟨xs, k _ a, b.mn m⟩
  | fK kvs => obtain ⟨u, xs, a, b⟩ := h; exact ⟨u, xs, k _ a, b.mn m⟩
  | dT kvs => obtain ⟨xs, a, b⟩ := h; exact ⟨xs, k _ a, b.mn m⟩
  | fT kvs => obtain ⟨u, xs, a, b⟩ := h; exact ⟨u, xs, k _ a, b.mn m⟩
/-- a locked dict is free again -/
theorem HR.free {h : MH} {i : Nat} {p : Addr} {od : Obj} {kv : List (Key × V)} {l : List (Key × D)} (r : HR g H μ h) (hi : μ[i]? = some p) (hw : h[i]? = some (.fK l)) (hp : H p = some (.frz od (.dK kv))) (m : Mn g H (upd H p (.dK kv)) μ μ) : HR g (upd H p (.dK kv)) μ (h.set i (.dK l)) := by
  have hlt : i < h.length := (List.getElem?_eq_some_iff.mp hw).1
  refine ⟨by rw [List.length_set]; exact r.len, fun j q v hj hv => ?_, fun j k q v x hj hk hv hx m1 m2 => ?_⟩
  · by_cases e : i = j
    · subst e
      rw [List.getElem?_set_self hlt] at hv
      rw [hi] at hj
      cases hj; cases hv
      obtain ⟨o', kv', e1, kr⟩ := r.ob i p _ hi hw
      rw [hp] at e1
      cases e1
      exact ⟨kv, upd_same, kr.mn m⟩
    · rw [List.getElem?_set_ne e] at hv
      have old := r.ob j q v hj hv
      by_cases eq : q = p
      · subst eq
        cases mv : isMut v with
        | true => exact absurd (r.nd i j q _ v hi hj hw hv rfl mv) e
        | false =>
          cases v with
          | rol ds =>
            obtain ⟨xs, a, b⟩ := old
            refine ⟨xs, ?_, b.mn m⟩
            rcases a with ⟨u', a⟩ | a
            · rw [hp] at a; cases a
            · exact .inr a
          | lst ds => cases mv
          | dK kvs => cases mv
          | ins c fs => cases mv
          | dN kvs => cases mv
          | fK kvs => cases mv
          | dT kvs => cases mv
          | fT kvs => cases mv
      · exact old.mn_at m fun u eu => by rw [upd_ne eq]; exact eu
  · have key : ∀ (j : Nat) (v : MO), (h.set i (.dK l))[j]? = some v → isMut v = true → ∃ v', h[j]? = some v' ∧ isMut v' = true := fun j v hv mv => by
      by_cases e : i = j
      · subst e; exact ⟨_, hw, rfl⟩
      · rw [List.getElem?_set_ne e] at hv; exact ⟨v, hv, mv⟩
    obtain ⟨v', hv', mv'⟩ := key j v hv m1
    obtain ⟨x', hx', mx'⟩ := key k x hx m2
    exact r.nd j k q v' x' hj hk hv' hx' mv' mx'
end
/-! ### the lock -/
def mLock (k : Nat) (m : ME) : ME := fun ρ h => match ρ[k]? with
  | some (some (.ref i)) => match h[i]? with
    | some (.dK l) => (m ρ (h.set i (.fK l))).bind fun y h' => match h'[i]? with
      | some (.fK l') => .ok y (h'.set i (.dK l'))
      | _ => .bad
    | _ => .bad
  | _ => .bad
section
variable {X : Cx} {g : G} {W : WX} {e : Expr} {m : ME}
/-! ### its keys -/
def kD : Key → D
  | .inl i => .int i
  | .inr x => .str x
def mKeysF (ma : ME) : MI := fun ρ h => (ma ρ h).bind fun x h1 => match x with
  | .ref i => match h1[i]? with
    | some (.fK l) => .ok (l.map (fun p => kD p.1), yes) h1
    | _ => .bad
  | _ => .bad
end
end Mi
namespace Mi
open PySem L2 PySem.Spec PyProof.Rows
def leP (p q : Int × Int) : Bool := decide (p.1 < q.1 ∨ (p.1 = q.1 ∧ p.2 ≤ q.2))
def sortP (l : List (Int × Int)) : List (Int × Int) := l.mergeSort leP
def pairD (p : Int × Int) : D := .tup [.int p.1, .int p.2]
def allPair : List D → Option (List (Int × Int))
  | [] => some []
  | .tup [.int a, .int b] :: l => (allPair l).map ((a, b) :: ·)
  | _ => none
def encP (b : Int × Int) : PyData := .tuple [.int b.1, .int b.2]
def PairV (K : PySem.W.Frag) (H : Hp) (x : V) (b : Int × Int) : Prop := ∃ q, x = .ref q ∧ Tk K H q [.int b.1, .int b.2]
abbrev PairsV (K : PySem.W.Frag) (H : Hp) : List V → List (Int × Int) → Prop := PySem.W.EachIs (PairV K H)
def rSortP (K : PySem.W.Frag) : List V → Hp → VK → Prop := fun xs H Q => ∃ p ys bs, xs = [V.ref p] ∧ SqL K H p ys ∧ PairsV K H ys bs ∧ ∀ zs r, PairsV K H zs (sortP bs) → H r = none → Q (.ref r) (upd H r (.lst zs))
section
variable {X : Cx} {pins : List (Addr × Obj)} {σ : L2.St} {H : Hp} {s : Shared}
end
def dSortP : List D → MH → R D
  | [x], h => match x with
    | .ref i => match getL h i with
      | some l => match allPair l with
        | some ps => .ok (.ref h.length) (h ++ [.lst ((sortP ps).map pairD)])
        | none => .bad
      | none => .bad
    | _ => .bad
  | _, _ => .bad
/-! ### sorted of a tuple of texts -/
def rSortTu (K : PySem.W.Frag) : List V → Hp → VK → Prop := fun xs H Q => ∃ p ys, xs = [V.ref p] ∧ SqT K H p (ys.map V.str) ∧ ∀ r, H r = none → Q (.ref r) (upd H r (.lst ((sortS ys).map V.str)))
def dSortTu : List D → MH → R D
  | [x], h => match x with
    | .tup l => match allStr l with
      | some ys => .ok (.ref h.length) (h ++ [.lst ((sortS ys).map .str)])
      | none => .bad
    | _ => .bad
  | _, _ => .bad
end Mi

/-! tuple.index of a whole number. -/
namespace Mi
open PySem L2 PySem.Spec PyProof.Rows
section
variable {X : Cx} {g : G} {W : WX} {a b : Expr} {ma mb : ME} {pos : Pos}
def dTIdxI (x y : D) (h : MH) : R D := match x, y with
  | .tup l, .int k => match allInt l with
    | some ns => if k ∈ ns then .ok (.int (ns.idxOf k : Nat)) h else .bad
    | none => .bad
  | _, _ => .bad
def mTIndexI (a b : ME) : ME := fun ρ h => (a ρ h).bind fun x h1 => match x with
  | .tup l => (b ρ h1).bind fun y h2 => dTIdxI (.tup l) y h2
  | _ => .bad
end
/-! the calculus -/
section
variable {Q : D → MH → Prop} {E : XE} {h : MH} {ρ : Slots}
end
end Mi

/-! list.extend of a tuple. -/
namespace Mi
open PySem L2 PySem.Spec PyProof.Rows
open AutoSeq1 (wpAny_loadPart')
def rExtTu (K : PySem.W.Frag) : V → List V → Hp → VK → Prop := fun x vs H Q => ∃ l b xs zs, x = .ref l ∧ vs = [.ref b] ∧ H l = some (.lst xs) ∧ SqT K H b zs ∧ xs.length + zs.length ≤ sizeLine ∧ Q .non (upd H l (.lst (xs ++ zs)))
def dExtTu : D → List D → MH → R D
  | .ref i, [x], h => match x with
    | .tup m => match h[i]? with
      | some (.lst l) => if l.length + m.length ≤ 1000000 then .ok .non (h.set i (.lst (l ++ m))) else .bad
      | _ => .bad
    | _ => .bad
  | _, _, _ => .bad
end Mi

/-! dict.get and dict.setdefault (keys whole numbers, texts, tuples); min of whole numbers and of pairs of them. -/
namespace Mi
open PySem L2 PySem.Spec PyProof.Rows
def IsDN (w : World) (H : Hp) (a : Addr) : Prop := (∃ kvs, H a = some (.dK kvs)) ∨ ∃ xs, H a = some (DN w a xs)
def rGetA (K : PySem.W.Frag) (w : World) (x y z : V) (H : Hp) (Q : VK) : Prop :=
  (∃ a k kvs, x = .ref a ∧ y = kV k ∧ H a = some (.dK kvs) ∧ Q ((valV kvs k).getD z) H) ∨
  ∃ c p k xs, x = .ref p ∧ y = .ref c ∧ NkV K H k (.ref c) ∧ k.depth ≤ 8 ∧ NDct w H p xs ∧ NKeys K H xs ∧ (∀ c' u, atKey xs k = some (c', u) → ∃ v, RelV v u ∧ Q v H) ∧ (atKey xs k = none → Q z H)
def rSetA (K : PySem.W.Frag) (w : World) (x y z : V) (H : Hp) (Q : VK) : Prop :=
  (∃ a k kvs, x = .ref a ∧ y = kV k ∧ H a = some (.dK kvs) ∧ kvs.length < sizeLine ∧ (∀ v, valV kvs k = some v → Q v H) ∧ (valV kvs k = none → Q z (upd H a (.dK (putK kvs k z))))) ∨
  ∃ c p k xs, x = .ref p ∧ y = .ref c ∧ NkV K H k (.ref c) ∧ k.depth ≤ 8 ∧ NDct w H p xs ∧ NKeys K H xs ∧ xs.length < sizeLine ∧ (∀ c' u, atKey xs k = some (c', u) → ∃ v, RelV v u ∧ Q v H) ∧ (atKey xs k = none → ∀ u, RelV z u → Q z (upd H p (DN w p (storedH xs k c u))))
def tDM2 (w : World) (r : V → V → V → Hp → VK → Prop) (td ty tx : TE) : TE := fun σ H Q => td σ H fun x H1 => ∃ a, x = .ref a ∧ IsDN w H1 a ∧ ty σ H1 fun y H2 => tx σ H2 fun z H3 => r x y z H3 Q
section
variable {X : Cx} {pins : List (Addr × Obj)} {σ : L2.St} {H : Hp} {s : Shared} {a : Addr}
end
section
variable {X : Cx} {o e f : Expr} {td ty tx : TE} {apos cpos : Pos}
end
/-! ### the mirror -/
def isDctD (x : D) (h : MH) : Bool := match x with
  | .ref i => match h[i]? with
    | some (.dK _) => true
    | some (.dN _) => true
    | _ => false
  | _ => false
def dGetA (x y z : D) (h : MH) : R D := match keyD y with
  | some k => match getK h x with
    | some l => .ok ((valD l k).getD z) h
    | none => .bad
  | none => match nkT y, getN h x with
    | some k, some l => .ok ((valN l k).getD z) h
    | _, _ => .bad
def dSetA (x y z : D) (h : MH) : R D := match x with
  | .ref i => match keyD y with
    | some k => match getK h (.ref i) with
      | some l => if l.length < 1000000 then match valD l k with
        | some v => .ok v h
        | none => .ok z (h.set i (.dK (putKD l k z))) else .bad
      | none => .bad
    | none => match nkT y, getN h (.ref i) with
      | some k, some l => if l.length < 1000000 then match valN l k with
        | some v => .ok v h
        | none => .ok z (h.set i (.dN (putN l k z))) else .bad
      | _, _ => .bad
  | _ => .bad
def mDM (F : D → D → D → MH → R D) (o e f : ME) : ME := fun ρ h => (o ρ h).bind fun x h1 => if isDctD x h1 = true then (e ρ h1).bind fun y h2 => (f ρ h2).bind fun z h3 => F x y z h3 else .bad
section
variable {g : G} {H : Hp} {μ : List Addr} {h : MH}
end
def S3 (g : G) (r : V → V → V → Hp → VK → Prop) (F : D → D → D → MH → R D) : Prop := ∀ (H : Hp) (μ : List Addr) (h : MH) (x y z : V) (a b c : D) (Q : VK) (W : XK), HR g H μ h → VR g H μ x a → VR g H μ y b → VR g H μ z c → Bk (VR g) g H μ (F a b c h) Q W → r x y z H Q
section
variable {g : G}
end
section
variable {X : Cx} {W : WX} {o e f : Expr} {mo me mf : ME} {apos cpos : Pos} {r : V → V → V → Hp → VK → Prop} {F : D → D → D → MH → R D}
end
/-! ### min -/
def ltP (p q : Int × Int) : Bool := decide (p.1 < q.1 ∨ (p.1 = q.1 ∧ p.2 < q.2))
def minP : List (Int × Int) → Int × Int
  | [] => (0, 0)
  | b :: bs => bs.foldl (fun a y => if ltP y a then y else a) b
def minI : List Int → Int
  | [] => 0
  | b :: bs => bs.foldl min b
def rMinP (K : PySem.W.Frag) : List V → Hp → VK → Prop := fun xs H Q => ∃ p ys bs, xs = [V.ref p] ∧ SqL K H p ys ∧ PairsV K H ys bs ∧ 0 < bs.length ∧ ∀ z, PairV K H z (minP bs) → Q z H
def rMinA (K : PySem.W.Frag) : List V → Hp → VK → Prop := fun xs H Q => rMin K xs H Q ∨ rMinP K xs H Q
section
variable {X : Cx} {pins : List (Addr × Obj)} {σ : L2.St} {H : Hp} {s : Shared}
end
def dMinA : List D → MH → R D
  | [x], h => match x with
    | .ref i => match (getL h i).bind allInt with
      | some ns => if 0 < ns.length then .ok (.int (minI ns)) h else .bad
      | none => match (getL h i).bind allPair with
        | some ps => if 0 < ps.length then .ok (pairD (minP ps)) h else .bad
        | none => .bad
    | _ => .bad
  | _, _ => .bad
/-! ### x >> y -/
def dShr : D → D → MH → R D
  | .int i, .int j, h => if 0 ≤ j then .ok (.int (i / 2 ^ j.toNat)) h else .bad
  | _, _, _ => .bad
/-! ### the calculus -/
section
variable {Q : D → MH → Prop} {E : XE} {h : MH} {ρ : Slots}
end
end Mi

/-! list(d), sorted(d) of a dict with whole numbers as keys. -/
namespace Mi
open PySem L2 PySem.Spec PyProof.Rows
def leI (a b : Int) : Bool := decide (a ≤ b)
def rSortKI : List V → Hp → VK → Prop := fun xs H Q => ∃ (a : Addr) (kvs : List (Key × V)) (ys : List Int), xs = [V.ref a] ∧ H a = some (.dK kvs) ∧ kvs.map (·.1) = ys.map Sum.inl ∧ ∀ p, H p = none → Q (.ref p) (upd H p (.lst ((sortI ys).map V.int)))
/-- the keys, all of them whole numbers -/
def intKeys : List (Key × D) → Option (List Int)
  | [] => some []
  | (.inl x, _) :: l => (intKeys l).map (x :: ·)
  | (.inr _, _) :: _ => none
def dSortKI : List D → MH → R D
  | [x], h => match getK h x with
    | some l => match intKeys l with
      | some ys => .ok (.ref h.length) (h ++ [.lst ((sortI ys).map .int)])
      | none => .bad
    | none => .bad
  | _, _ => .bad
/-! ### list(d) -/
def rListK : List V → Hp → VK → Prop := fun xs H Q => ∃ (a : Addr) (kvs : List (Key × V)), xs = [V.ref a] ∧ H a = some (.dK kvs) ∧ ∀ p, H p = none → Q (.ref p) (upd H p (.lst (kvs.map fun e => kV e.1)))
def dListK : List D → MH → R D
  | [x], h => match getK h x with
    | some l => .ok (.ref h.length) (h ++ [.lst (l.map fun p => kD p.1)])
    | none => .bad
  | _, _ => .bad
end Mi

/-! sorted of a list of triples of whole numbers -/
namespace Mi
open PySem L2 PySem.Spec PyProof.Rows
def triD (p : Int × Int × Int) : D := .tup [.int p.1, .int p.2.1, .int p.2.2]
def allTri : List D → Option (List (Int × Int × Int))
  | [] => some []
  | .tup [.int a, .int b, .int c] :: l => (allTri l).map ((a, b, c) :: ·)
  | _ => none
def encQ (b : Int × Int × Int) : PyData := .tuple [.int b.1, .int b.2.1, .int b.2.2]
def sortQ (l : List (Int × Int × Int)) : List (Int × Int × Int) := l.mergeSort (PySem.W.dataLe false encQ)
def TriV (K : PySem.W.Frag) (H : Hp) (x : V) (b : Int × Int × Int) : Prop := ∃ q, x = .ref q ∧ Tk K H q [.int b.1, .int b.2.1, .int b.2.2]
abbrev TrisV (K : PySem.W.Frag) (H : Hp) : List V → List (Int × Int × Int) → Prop := PySem.W.EachIs (TriV K H)
def rSortQ (K : PySem.W.Frag) : List V → Hp → VK → Prop := fun xs H Q => ∃ p ys bs, xs = [V.ref p] ∧ SqL K H p ys ∧ TrisV K H ys bs ∧ ∀ zs r, TrisV K H zs (sortQ bs) → H r = none → Q (.ref r) (upd H r (.lst zs))
section
variable {X : Cx} {pins : List (Addr × Obj)} {σ : L2.St} {H : Hp} {s : Shared}
end
def dSortQ : List D → MH → R D
  | [x], h => match x with
    | .ref i => match getL h i with
      | some l => match allTri l with
        | some ps => .ok (.ref h.length) (h ++ [.lst ((sortQ ps).map triD)])
        | none => .bad
      | none => .bad
    | _ => .bad
  | _, _ => .bad
end Mi

/-! dicts with tuple keys whose key objects are kept: d[k] = v, k not in d, list(d) -/
namespace Mi
open PySem L2 PySem.Spec PyProof.Rows
def getT (h : MH) (x : D) : Option (List (D × D)) := match x with
  | .ref i => match h[i]? with
    | some (.dT l) => some l
    | some (.dK []) => some []
    | _ => none
  | _ => none
def valT (kvs : List (D × D)) (k : NestedKey) : Option D := (kvs.find? fun x => decide (nkD x.1 = some k)).map (·.2)
def putT (kvs : List (D × D)) (e : D) (k : NestedKey) (d : D) : List (D × D) :=
  if (valT kvs k).isSome = true then kvs.map (fun x => if nkD x.1 = some k then (x.1, d) else x) else kvs ++ [(e, d)]
section
variable {g : G} {H : Hp} {μ : List Addr} {h : MH}
theorem TR.keys : ∀ {xs : NE} {kvs : List (D × D)}, TR g H μ xs kvs → NKeys g.K H xs
  | _, _, .nil => fun e he => by simp at he
  | _, _, .cons a e l r v b => fun x hx => by
    rcases List.mem_cons.mp hx with rfl | hx
    · exact ⟨nkv_of _ _ _ a e, l⟩
    · exact TR.keys b x hx
theorem TR.val (k : NestedKey) : ∀ {xs : NE} {kvs : List (D × D)}, TR g H μ xs kvs → (atKey xs k = none ∧ valT kvs k = none) ∨ ∃ a u v d, atKey xs k = some (a, u) ∧ valT kvs k = some d ∧ RelV v u ∧ VR g H μ v d
  | _, _, .nil => .inl ⟨rfl, rfl⟩
  | _, _, @TR.cons _ _ _ k' a u e d v xs ds va ek l r vd b => by
    by_cases c : k' = k
    · refine .inr ⟨a, u, v, d, ?_, ?_, r, vd⟩
      · simp [atKey, List.find?_cons, c]
      · simp [valT, List.find?_cons, ek, c]
    · have e1 : atKey ((k', a, u) :: xs) k = atKey xs k := by simp [atKey, List.find?_cons, c]
      have e2 : valT ((e, d) :: ds) k = valT ds k := by simp [valT, List.find?_cons, ek, c]
      rw [e1, e2]
      exact TR.val k b
theorem TR.some_eq (k : NestedKey) {xs : NE} {kvs : List (D × D)} (r : TR g H μ xs kvs) : (atKey xs k).isSome = (valT kvs k).isSome := by
  rcases r.val k with ⟨e1, e2⟩ | ⟨a, u, v, d, e1, e2, _⟩ <;> rw [e1, e2] <;> rfl
theorem TR.repl (k : NestedKey) {u : Value} {v : V} {d : D} (ru : RelV v u) (vd : VR g H μ v d) : ∀ {xs : NE} {kvs : List (D × D)}, TR g H μ xs kvs → TR g H μ (xs.map (putAt k u)) (kvs.map fun x => if nkD x.1 = some k then (x.1, d) else x)
  | _, _, .nil => .nil
  | _, _, @TR.cons _ _ _ k' a u' e d' v' xs ds va ek l r vd' b => by
    rw [List.map_cons, List.map_cons]
    by_cases c : k' = k
    · simp only [putAt, c, ek, if_true]
      exact .cons va (c ▸ ek) (c ▸ l) ru vd (TR.repl k ru vd b)
    · have c2 : ¬ (some k' = some k) := fun z => c (Option.some.inj z)
      simp only [putAt, c, ek, c2, if_false]
      exact .cons va ek l r vd' (TR.repl k ru vd b)
theorem TR.snoc {k : NestedKey} {a : Addr} {u : Value} {e d : D} {v : V} (va : VR g H μ (.ref a) e) (ek : nkD e = some k) (l : k.depth ≤ 8) (ru : RelV v u) (vd : VR g H μ v d) : ∀ {xs : NE} {kvs : List (D × D)}, TR g H μ xs kvs → TR g H μ (xs ++ [(k, a, u)]) (kvs ++ [(e, d)])
  | _, _, .nil => .cons va ek l ru vd .nil
  | _, _, .cons a1 e1 l1 r1 v1 b => .cons a1 e1 l1 r1 v1 (TR.snoc va ek l ru vd b)
theorem TR.put {k : NestedKey} {a : Addr} {u : Value} {e d : D} {v : V} (va : VR g H μ (.ref a) e) (ek : nkD e = some k) (l : k.depth ≤ 8) (ru : RelV v u) (vd : VR g H μ v d) {xs : NE} {kvs : List (D × D)} (r : TR g H μ xs kvs) : TR g H μ (storedH xs k a u) (putT kvs e k d) := by
  unfold storedH putT
  rw [r.some_eq k]
  split
  · exact r.repl k ru vd
  · exact r.snoc va ek l ru vd
theorem TR.len : ∀ {xs : NE} {kvs : List (D × D)}, TR g H μ xs kvs → xs.length = kvs.length
  | _, _, .nil => rfl
  | _, _, .cons _ _ _ _ _ b => by rw [List.length_cons, List.length_cons, TR.len b]
theorem TR.objs : ∀ {xs : NE} {kvs : List (D × D)}, TR g H μ xs kvs → VRs g H μ (xs.map fun x => V.ref x.2.1) (kvs.map (·.1))
  | _, _, .nil => .nil
  | _, _, .cons a _ _ _ _ b => .cons a (TR.objs b)
end
def dTNotIn (a b : D) (h : MH) : R D := match nkT a, getT h b with
  | some k, some l => .ok (.bl (!(valT l k).isSome)) h
  | _, _ => .bad
def dTSet (x y d : D) (h : MH) : R Unit := match x, nkT y, getT h x with
  | .ref i, some k, some l => if l.length < 1000000 then .ok () (h.set i (.dT (putT l y k d))) else .bad
  | _, _, _ => .bad
def mTSet (o i e : ME) : MS := fun ρ h => (e ρ h).out ρ fun d h1 => (o ρ h1).out ρ fun x h2 => (i ρ h2).out ρ fun y h3 => (dTSet x y d h3).out ρ fun _ h4 => .nx ρ h4
def dListT : List D → MH → R D
  | [x], h => match getT h x with
    | some l => .ok (.ref h.length) (h ++ [.lst (l.map (·.1))])
    | none => .bad
  | _, _ => .bad
def rListN (K : PySem.W.Frag) (w : World) : List V → Hp → VK → Prop := fun xs H Q => ∃ (p : Addr) (es : NE), xs = [V.ref p] ∧ NDct w H p es ∧ NKeys K H es ∧ ∀ r, H r = none → Q (.ref r) (upd H r (.lst (es.map fun e => V.ref e.2.1)))
section
variable {X : Cx} {g : G} {W : WX}
variable {o i e : Expr} {mo mi me : ME} {pos p2 : Pos}
end
/-! the calculus -/
section
variable {Q : D → MH → Prop} {E : XE} {h : MH} {ρ : Slots}
end
end Mi

/-! sorted(set(t)) of a tuple of texts -/
namespace Mi
open PySem L2 PySem.Spec PyProof.Rows
section
variable {P : Program} {w : World} {A : Around} {E : Value → Shared → Prop} {s : Shared}
set_option maxHeartbeats 3200000 in
end
def mSortSetT (a : ME) : ME := fun ρ h => (a ρ h).bind fun x h1 => match x with
  | .tup l => match allStr l with
    | some ys => if ys.length < 4000 then .ok (.ref h1.length) (h1 ++ [.lst ((sortS (ys.eraseDups)).map .str)]) else .bad
    | none => .bad
  | _ => .bad
section
variable {X : Cx} {g : G} {W : WX} {ma : ME} {a : Expr} {p p2 q pos : Pos}
end
def dSortSetT : List D → MH → R D
  | [x], h1 => match x with
    | .tup l => match allStr l with
      | some ys => if ys.length < 4000 then .ok (.ref h1.length) (h1 ++ [.lst ((sortS (ys.eraseDups)).map .str)]) else .bad
      | none => .bad
    | _ => .bad
  | _, _ => .bad
section
variable {X : Cx} {g : G} {W : WX} {ma : ME} {a : Expr} {p p2 q pos : Pos}
end
end Mi

/-! max(l, default=d); == of deep data -/
namespace Mi
open PySem L2 PySem.Spec PyProof.Rows
def rMaxD (K : PySem.W.Frag) (a d : V) (H : Hp) (Q : VK) : Prop := ∃ p ns, a = .ref p ∧ SqL K H p (ns.map .int) ∧ (ns = [] → Q d H) ∧ ∀ n r, ns = n :: r → Q (.int (r.foldl max n)) H
section
variable {X : Cx} {x : Str} {p pos kpos : Pos} {e o : Expr} {te tk : TE}
end
def dMaxD : D → D → MH → R D
  | .ref i, d, h => match (getL h i).bind allInt with
    | some [] => .ok d h
    | some (n :: r) => .ok (.int (r.foldl max n)) h
    | none => .bad
  | _, _, _ => .bad
section
variable {X : Cx} {g : G} {W : WX} {a o : Expr} {ma mo : ME} {pos p kpos : Pos} {x : Str}
end
/-! ### == of deep data -/
def shapedX (d : PyData) : Bool := d.canLay0 && decide (d.depth ≤ 160)
def eqX (a b : D) (h : MH) : Option Bool := match pyOf 200 h a, pyOf 200 h b with
  | some d, some e => if shapedX d = true ∧ shapedX e = true then some (PyData.eqv d e) else none
  | _, _ => none
def dEqX (a b : D) (h : MH) : R D := match eqX a b h with
  | some k => .ok (.bl k) h
  | none => .bad
def dNeX (a b : D) (h : MH) : R D := match eqX a b h with
  | some k => .ok (.bl (!k)) h
  | none => .bad
def rEqX (K : PySem.W.Frag) : R2 := fun x y H Q => ∃ d e, Dp K H x d ∧ Dp K H y e ∧ shapedX d = true ∧ shapedX e = true ∧ Q (.bl (PyData.eqv d e)) H
def rNeX (K : PySem.W.Frag) : R2 := fun x y H Q => ∃ d e, Dp K H x d ∧ Dp K H y e ∧ shapedX d = true ∧ shapedX e = true ∧ Q (.bl (!PyData.eqv d e)) H
section
variable {X : Cx}
end
section
variable {g : G} {H : Hp} {μ : List Addr} {h : MH}
end
end Mi

/-! text methods: split(sep), strip(chars), startswith(prefix); list.count of ints -/
namespace Mi
open PySem L2 PySem.Spec PyProof.Rows
def dSplit : D → List D → MH → R D
  | .str a, [.str b], h => if (b.length == 0) = false ∧ a.length ≤ 900000 then .ok (.ref h.length) (h ++ [.lst ((Txt.split a b).map .str)]) else .bad
  | _, _, _ => .bad
def dStripC : D → List D → MH → R D
  | .str a, [.str b], h => if a.length ≤ 900000 then .ok (.str (Txt.stripChars a b)) h else .bad
  | _, _, _ => .bad
def dStartsw : D → List D → MH → R D
  | .str a, [.str b], h => .ok (.bl (Txt.startswith a b)) h
  | _, _, _ => .bad
def dLCount : D → List D → MH → R D
  | .ref i, [.int k], h => match (getL h i).bind allInt with
    | some ns => .ok (.int (ns.count k : Nat)) h
    | none => .bad
  | _, _, _ => .bad
section
variable {g : G}
theorem sm_split : SM g (fun x xs H Q => ∃ a b, x = .str a ∧ xs = [.str b] ∧ (b.length == 0) = false ∧ a.length + 2 ≤ sizeLine ∧ rNewStrs (Txt.split a b) H Q) dSplit := by
  intro H μ h x xs a ds Q W hr va vs bk
  unfold dSplit at bk
  split at bk
  · rename_i a b
    cases va
    cases vs with
    | cons vd t =>
      cases t
      cases vd
      split at bk
      · rename_i c
        exact ⟨a, b, rfl, rfl, c.1, sz6 (by omega), fun p hp => bk.newL hr (vrs_strs _) hp⟩
      · exact bk.elim
  · exact bk.elim
theorem sm_stripC : SM g (fun x xs H Q => ∃ a b, x = .str a ∧ xs = [.str b] ∧ a.length ≤ sizeLine ∧ Q (.str (Txt.stripChars a b)) H) dStripC := by
  intro H μ h x xs a ds Q W hr va vs bk
  unfold dStripC at bk
  split at bk
  · rename_i a b
    cases va
    cases vs with
    | cons vd t =>
      cases t
      cases vd
      split at bk
      · rename_i c
        exact ⟨a, b, rfl, rfl, sz6 (by omega), bk.val hr (.str _)⟩
      · exact bk.elim
  · exact bk.elim
theorem sm_startsw : SM g (fun x xs H Q => ∃ a b, x = .str a ∧ xs = [.str b] ∧ Q (.bl (Txt.startswith a b)) H) dStartsw := by
  intro H μ h x xs a ds Q W hr va vs bk
  unfold dStartsw at bk
  split at bk
  · rename_i a b
    cases va
    cases vs with
    | cons vd t =>
      cases t
      cases vd
      exact ⟨a, b, rfl, rfl, bk.val hr (.bl _)⟩
  · exact bk.elim
end
section
variable {h : MH} {Q : D → MH → Prop} {E : XE} {x y : Str}
theorem w_split (hy : (y.length == 0) = false) (hx : x.length ≤ 900000) (q : Q (.ref h.length) (h ++ [.lst ((Txt.split x y).map .str)])) : Sat (dSplit (.str x) [.str y] h) Q E := w_eq (by simp only [dSplit, if_pos (And.intro hy hx)]) q
theorem w_stripC (hx : x.length ≤ 900000) (q : Q (.str (Txt.stripChars x y)) h) : Sat (dStripC (.str x) [.str y] h) Q E := w_eq (by simp only [dStripC, if_pos hx]) q
theorem w_startsw (q : Q (.bl (Txt.startswith x y)) h) : Sat (dStartsw (.str x) [.str y] h) Q E := w_eq rfl q
end
end Mi

/-! comprehensions over triples; sorted of texts, of any number -/
namespace Mi
open PySem L2 PySem.Spec PyProof.Rows
def rSortT (K : PySem.W.Frag) : List V → Hp → VK → Prop := fun xs H Q => ∃ p ys, xs = [V.ref p] ∧ SqL K H p (ys.map V.str) ∧ ∀ r, H r = none → Q (.ref r) (upd H r (.lst ((sortS ys).map V.str)))
section
variable {X : Cx}
end
def dSortT : List D → MH → R D
  | [x], h => match x with
    | .ref i => match (getL h i).bind allStr with
      | some ys => .ok (.ref h.length) (h ++ [.lst ((sortS ys).map .str)])
      | none => .bad
    | _ => .bad
  | _, _ => .bad
end Mi

/-! {k: v} where k is a tuple. -/
namespace Mi
open PySem L2 PySem.Spec PyProof.Rows
open PySem.Sem (wp)
section
variable {prog : Program} {w : World} {K : Type} [DecidableEq K] {knd : HeapKind prog w K} {A : Around} {E : Value → Shared → Prop} {s : Shared}
end
def tDisp1N (K : PySem.W.Frag) (w : World) (trs : List (TE × TE)) : TE := fun σ H Q => ∀ p, H p = none → tPairs trs σ (upd H p (.dK [])) fun ps H2 => H2 p = some (.dK []) ∧ ∃ a y k, ps = [(.ref a, y)] ∧ NkV K H2 k (.ref a) ∧ k.depth ≤ 8 ∧ ∀ u, RelV y u → Q (.ref p) (upd H2 p (DN w p [(k, a, u)]))
def mDict1N (k v : ME) : ME := fun ρ h => (k ρ (h ++ [.dK []])).bind fun x h1 => (v ρ h1).bind fun y h2 => if h2[h.length]? = some (.dK []) then match nkT x with
  | some kk => .ok (.ref h.length) (h2.set h.length (.dN [(kk, y)]))
  | none => .bad else .bad
end Mi

/-! zip of a tuple and a list. -/
namespace Mi
open PySem L2 PySem.Spec PyProof.Rows
open PySem.Sem (wp)
/-- the tuple at a and the list at b as they stand at each turn, the items in new pairs -/
def ItzM (K : PySem.W.Frag) (a b : Addr) : L2.It :=
  ⟨fun i H => ∃ (xs ys : List V) (x y : V), SqT K H a xs ∧ SqL K H b ys ∧ xs[i]? = some x ∧ ys[i]? = some y,
    fun i H v H' => ∃ T x y, v = .ref T ∧ H T = none ∧ H' = upd H T (.tup [x, y]) ∧ (∀ xs, SqT K H a xs → xs[i]? = some x) ∧ ∀ ys, SqL K H b ys → ys[i]? = some y,
    fun i H => ∃ xs ys : List V, SqT K H a xs ∧ SqL K H b ys ∧ (xs.length ≤ i ∨ ys.length ≤ i)⟩
section
variable {prog : Program} {w : World} {A : Around}
end
def iZipM (K : PySem.W.Frag) (ta : TA) : TI := fun σ H R => ta σ H fun vs H1 => ∃ a b xs ys, vs = [.ref a, .ref b] ∧ SqT K H1 a xs ∧ SqL K H1 b ys ∧ R (ItzM K a b) H1
def zipM (x y : D) (h : MH) : R (List D × (MH → Bool)) := match x, y with
  | .tup l, .ref j => match getL h j with
    | some m => .ok (zipD l m, fun h' => decide (getL h' j = some m)) h
    | none => .bad
  | _, _ => .bad
def mZipM (a b : ME) : MI := fun ρ h => (a ρ h).bind fun x h1 => (b ρ h1).bind fun y h2 => zipM x y h2
section
variable {X : Cx} {g : G} {W : WX} {a b : Expr} {ma mb : ME} {pos : Pos}
end
section
variable {Q : D → MH → Prop} {QI : List D × (MH → Bool) → MH → Prop} {E : XE} {ρ : Slots} {h : MH} {a b : ME}
end
end Mi

/-! a tuple of one thing, none or so many times; long joins -/
namespace Mi
open PySem PySem.Spec PyProof.Rows L2
/-- a tuple of one item no times -/
def rRep0 (K : PySem.W.Frag) : R2 := fun x y H Q => ∃ l z, x = .ref l ∧ y = .int 0 ∧ SqT K H l [z] ∧ ∀ (p : Addr) (ob : Obj), H p = none → ob.dict = none → Q (.ref p) (upd H p (.frz ob (.tup [])))
section
variable {X : Cx}
end
def dRepZ : D → D → MH → R D
  | .tup [z], .int n, h => if n = 0 then .ok (.tup []) h else dRep (.tup [z]) (.int n) h
  | _, _, _ => .bad
section
variable {X : Cx} {g : G}
def rRepZ (K : PySem.W.Frag) : R2 := fun x y H Q => rRepA K x y H Q ∨ rRep0 K x y H Q
end
/-! long joins -/
def dJoinB : D → List D → MH → R D
  | .str a, [b], h => match (seqOf h b).bind allStr with
    | some ys => if (ys.map (·.length)).sum + ys.length * a.length ≤ 16000000 then .ok (.str (Txt.join a ys)) h else .bad
    | none => .bad
  | _, _, _ => .bad
section
variable {g : G}
end
end Mi

/-! range with a step -/
namespace Mi
open PySem L2 PySem.Spec PyProof.Rows
def stepD (i c : Int) (n : Nat) : List D := (List.range n).map fun (k : Nat) => D.int (i + (k : Int) * c)
def dR3 (x y z : D) (h : MH) : R (List D × (MH → Bool)) := match x, y, z with
  | .int i, .int j, .int c => if c ≠ 0 ∧ c.natAbs < 1073741824 ∧ Builtin.Range.small i j c = true ∧ 0 ≤ Builtin.Range.rangeSize i j c then .ok (stepD i c (Builtin.Range.rangeSize i j c).toNat, yes) h else .bad
  | _, _, _ => .bad
def mRange3 (a b c : ME) : MI := fun ρ h => (a ρ h).bind fun x h1 => (b ρ h1).bind fun y h2 => (c ρ h2).bind fun z h3 => dR3 x y z h3
section
variable {X : Cx} {g : G} {W : WX} {a b c : Expr} {ma mb mc : ME} {pos : Pos} {tg : Expr}
end
section
variable {QI : List D × (MH → Bool) → MH → Prop} {E : XE} {h : MH} {ρ : Slots}
end
end Mi

/-! several except clauses, with a name and without. -/
namespace Mi
open PySem L2 PySem.Spec PyProof.Rows
/-- a clause: without a name; with a name in slot i; kept: slot i is the clause's name, slot j the one that keeps it -/
inductive HKd
  | only (ts : Addr → Value → Option Addr → TS)
  | named (i : Nat) (ts : Addr → Value → Option Addr → TS)
  | keep (i j : Nat)
def wHd (K : PySem.W.Frag) (Wo : WX) (D : Ends) : List (Value × HKd) → WX
  | [] => Wo
  | (c, .only ts) :: r => fun cls d σ H => ∃ b, PySem.W.exmOne K cls c = some b ∧ (b = true → ∀ a, H a = none → ts a cls d D σ H) ∧ (b = false → wHd K Wo D r cls d σ H)
  | (c, .named i ts) :: r => fun cls d σ H => ∃ b, PySem.W.exmOne K cls c = some b ∧ (b = true → ∀ a, H a = none → ts a cls d { nx := fun σ' H' => D.nx (σ'.set i none) H', rt := D.rt, bk := fun σ' H' => D.bk (σ'.set i none) H', ct := fun σ' H' => D.ct (σ'.set i none) H' } (σ.set i (some (.ref a))) H) ∧ (b = false → wHd K Wo D r cls d σ H)
  | (c, .keep i j) :: r => fun cls d σ H => ∃ b, PySem.W.exmOne K cls c = some b ∧ (b = true → ∃ C, cls = .ref C ∧ ∀ p, H p = none → D.nx (((σ.set i (some (.ref p))).set j (some (.ref p))).set i none) (upd H p (XOk C d p))) ∧ (b = false → wHd K Wo D r cls d σ H)
inductive HdsA (X : Cx) : List ExceptHandler → List (Value × HKd) → Prop
  | nil : HdsA X [] []
  | only {x : Str} {c : Value} {ts : Addr → Value → Option Addr → TS} {b0 : Stmt} {suite : List Stmt} {qn q0 : Pos} {hds : List ExceptHandler} {l : List (Value × HKd)} (hc : Names X x c)
      (hsu : ∀ (a : Addr) (oe : Obj) (cls : Value) (d : Option Addr) (pn : List (Addr × Obj)), Zc cls d oe → (∃ vs, oe.data = .fields vs) → PSs (X.suite a ((a, oe) :: pn)) (b0 :: suite) (ts a cls d)) (r : HdsA X hds l) :
      HdsA X (.ExceptHandler (some (.Name x qn)) none (b0 :: suite) q0 :: hds) ((c, .only ts) :: l)
  | named {x n : Str} {i : Nat} {c : Value} {ts : Addr → Value → Option Addr → TS} {b0 : Stmt} {suite : List Stmt} {qn q0 : Pos} {hds : List ExceptHandler} {l : List (Value × HKd)} (hc : Names X x c) (hi : X.N[i]? = some n) (hln : X.env.kindOf n = some .local)
      (hsu : ∀ (a : Addr) (oe : Obj) (cls : Value) (d : Option Addr) (pn : List (Addr × Obj)), Zc cls d oe → (∃ vs, oe.data = .fields vs) → PSs (X.suite a ((a, oe) :: pn)) (b0 :: suite) (ts a cls d)) (r : HdsA X hds l) :
      HdsA X (.ExceptHandler (some (.Name x qn)) (some n) (b0 :: suite) q0 :: hds) ((c, .named i ts) :: l)
  | keep {x n y : Str} {i j : Nat} {c : Value} {qn q0 q1 q2 q3 : Pos} {hds : List ExceptHandler} {l : List (Value × HKd)} (hc : Names X x c) (hi : X.N[i]? = some n) (hj : X.N[j]? = some y) (hij : i ≠ j) (hln : X.env.kindOf n = some .local) (hlr : X.env.kindOf y = some .local)
      (hdn : (n == ("__debug__" : Str)) = false) (hcd : (n == ("__classdict__" : Str)) = false) (hsw : swapsWith (.Name n q2) (some (.Name y q1)) q3.line X.env = pure false) (r : HdsA X hds l) :
      HdsA X (.ExceptHandler (some (.Name x qn)) (some n) [.Assign [.Name y q1] (.Name n q2) q3] q0 :: hds) ((c, .keep i j) :: l)
section
variable {X : Cx} {body : List Stmt} {hd0 : ExceptHandler} {hds : List ExceptHandler} {l : List (Value × HKd)} {q4 : Pos} {tb : WX → TS} {Wo : WX}
end
/-! ### the clauses by values -/
abbrev HF := Str → List (Str × D) → MS
def hdG : List (List (Str × Bool) × HF) → HF
  | [], c, fs, ρ, h => .exc c fs ρ h
  | (t, f) :: r, c, fs, ρ, h => match t.lookup c with
    | some true => f c fs ρ h
    | some false => hdG r c fs ρ h
    | none => .bad
def mTryH (hs : List (List (Str × Bool) × HF)) (b : MS) : MS := fun ρ h => match b ρ h with
  | .exc c fs ρ1 h1 => hdG hs c fs ρ1 h1
  | o => o
def hOnly (s : MS) : HF := fun _ _ => s
def hKeep (i j : Nat) : HF := fun c fs ρ h => match xoOf c fs with
  | some d => .nx (((ρ.set i none).set j (some d)).set i none) h
  | none => .bad
/-- with a name: a text kept in slot k, the exception's field f in slot j -/
def hFld (cs : List Str) (i k j : Nat) (s f : Str) : HF := fun c fs ρ h => match fs with
  | [(f', v)] => if c ∈ cs ∧ f' = f then .nx ((((ρ.set i none).set k (some (.str s))).set j (some v)).set i none) h else .bad
  | _ => .bad
def HsR (X : Cx) (W : WX) (hds : List ExceptHandler) (hs : List (List (Str × Bool) × HF)) : Prop :=
  ∃ l, HdsA X hds l ∧ ∀ (E : Ends) (cls : Value) (d : Option Addr) (σ : L2.St) (H : Hp) (μ : List Addr) (ρ : Slots) (h : MH) (cn : Str) (fs : List (Str × D)),
    SR (gOf X.w X.K) H μ σ ρ → HR (gOf X.w X.K) H μ h → XR (gOf X.w X.K) H μ cls d cn fs → BkS (gOf X.w X.K) H μ (hdG hs cn fs ρ h) E W → wHd X.K W E l cls d σ H
section
variable {X : Cx} {W : WX} {x n y w f s : Str} {b0 : Stmt} {suite body : List Stmt} {qn q0 q1 q2 q3 q4 q5 q6 q7 q8 : Pos} {ms mb : MS} {tab : List (Str × Bool)} {hds : List ExceptHandler} {hd0 : ExceptHandler} {hs : List (List (Str × Bool) × HF)} {i j k kx : Nat} {cs : List Str}
end
/-! ### walks -/
section
variable {N : SP} {T : D → MH → Prop} {B C : SP} {E : SX} {ρ : Slots} {h : MH} {b s : MS} {hs : List (List (Str × Bool) × HF)} {tab : List (Str × Bool)} {f : HF} {c : Str} {fs : List (Str × D)}
def tryH (hs : List (List (Str × Bool) × HF)) (N : SP) (T : D → MH → Prop) (B C : SP) (E : SX) : SX := fun c fs ρ h => OS (hdG hs c fs ρ h) N T B C E
end
end Mi

/-! dicts with tuple keys: walked (the dict is locked from then on), read -/
namespace Mi
open PySem L2 PySem.Spec PyProof.Rows
/-- a dict with tuple keys that is locked -/
def NFrz (w : World) (H : Hp) (p : Addr) (o : Obj) (xs : NE) : Prop := H p = some (.frz o (DN w p xs))
section
variable {X : Cx} {pins : List (Addr × Obj)} {σ : L2.St} {H : Hp} {s : Shared} {p : Addr} {xs : NE} {o : Obj}
end
/-- its key objects -/
def Itn (w : World) (d : Addr) (o : Obj) (xs : NE) : L2.It :=
  ⟨fun i H => NFrz w H d o xs ∧ i < xs.length, fun i H x H' => H' = H ∧ ∃ e, xs[i]? = some e ∧ x = .ref e.2.1, fun i H => NFrz w H d o xs ∧ xs.length ≤ i⟩
/-- the dict is locked now, or was -/
def iKeysN (w : World) (td : TE) : TI := fun σ H R => td σ H fun x H1 => ∃ d xs, x = .ref d ∧ ((∃ o, NFrz w H1 d o xs ∧ R (Itn w d o xs) H1) ∨ (H1 d = some (DN w d xs) ∧ ∀ o, R (Itn w d o xs) (upd H1 d (.frz o (DN w d xs)))))
/-! ### by values -/
def mKeysT (ma : ME) : MI := fun ρ h => (ma ρ h).bind fun x h1 => match x with
  | .ref i => match h1[i]? with
    | some (.dT l) => .ok (l.map (·.1), yes) (h1.set i (.fT l))
    | some (.fT l) => .ok (l.map (·.1), yes) h1
    | _ => .bad
  | _ => .bad
section
variable {g : G} {H : Hp} {μ : List Addr}
end
section
variable {X : Cx} {W : WX} {e tg : Expr} {ma : ME}
end
/-! ### read -/
def NDctR (w : World) (H : Hp) (p : Addr) (xs : NE) : Prop := NDct w H p xs ∨ ∃ o, NFrz w H p o xs
def rFIx (K : PySem.W.Frag) (w : World) : R2 := fun x y H Q => ∃ a p k xs c u v, y = .ref a ∧ x = .ref p ∧ NkV K H k (.ref a) ∧ k.depth ≤ 8 ∧ NDctR w H p xs ∧ NKeys K H xs ∧ atKey xs k = some (c, u) ∧ RelV v u ∧ Q v H
def getR (h : MH) (x : D) : Option (List (D × D)) := match x with
  | .ref i => match h[i]? with
    | some (.dT l) => some l
    | some (.fT l) => some l
    | some (.dK []) => some []
    | _ => none
  | _ => none
def dTIx (x y : D) (h : MH) : R D := match getR h x, nkT y with
  | some l, some k => match valT l k with
    | some d => .ok d h
    | none => .bad
  | _, _ => .bad
end Mi
namespace Mi
open Lean Elab Tactic Meta PySem PySem.Calls PyProof.Rows PyProof.V PySem.Spec
/-! ### == of two such dicts -/
section
variable {prog : Program} {w : World} {K : Type} [DecidableEq K] {knd : HeapKind prog w K} {A : Around} {E : Value → Shared → Prop} {s : Shared}
inductive HitsN (A : Around) (s : Shared) (kb : List (K × Addr × Value)) : List (K × Addr × Value) → Bool → Prop
  | nil : HitsN A s kb [] true
  | miss {e : K × Addr × Value} {r : List (K × Addr × Value)} : atKey kb e.1 = none → HitsN A s kb (e :: r) false
  | hit {e : K × Addr × Value} {c : Addr} {y : Value} {r : List (K × Addr × Value)} {k b : Bool} : atKey kb e.1 = some (c, y) → SeqAt.EqAt A s e.2.2 y k → HitsN A s kb r b → HitsN A s kb (e :: r) (k && b)
end
end Mi
namespace Mi
open PySem L2 PySem.Spec PyProof.Rows
/-! ### != by values (whole numbers) -/
def valsI : List (D × D) → Bool
  | [] => true
  | (_, .int _) :: l => valsI l
  | _ => false
def eqT (l m : List (D × D)) : Bool := l.length == m.length && l.all fun p => match nkD p.1 with
  | some k => decide (valT m k = some p.2)
  | none => false
def dTNe (a b : D) (h : MH) : R D := match getR h a, getR h b with
  | some l, some m => if valsI l = true ∧ valsI m = true then .ok (.bl (!(eqT l m))) h else .bad
  | _, _ => .bad
def IntE (xs : NE) (l : List (D × D)) : Prop := ∀ (i : Nat) e, xs[i]? = some e → ∃ (p : D × D) (z : Int) (t : Tok), l[i]? = some p ∧ nkD p.1 = some e.1 ∧ p.2 = .int z ∧ e.2.2 = .int z t
def rTNe (K : PySem.W.Frag) (w : World) : R2 := fun x y H Q => ∃ p q xs ys l m, x = .ref p ∧ y = .ref q ∧ NDctR w H p xs ∧ NKeys K H xs ∧ NDctR w H q ys ∧ NKeys K H ys ∧ xs.length = l.length ∧ ys.length = m.length ∧ IntE xs l ∧ IntE ys m ∧ (∀ k, (atKey ys k = none ∧ valT m k = none) ∨ ∃ a z t, atKey ys k = some (a, .int z t) ∧ valT m k = some (.int z)) ∧ Q (.bl (!(eqT l m))) H
/-! ### get -/
def dGetT (x y z : D) (h : MH) : R D := match nkT y, getT h x with
  | some k, some l => .ok ((valT l k).getD z) h
  | _, _ => .bad
def mGetT (o e f : ME) : ME := fun ρ h => (o ρ h).bind fun x h1 => if (getT h1 x).isSome = true then (e ρ h1).bind fun y h2 => (f ρ h2).bind fun z h3 => dGetT x y z h3 else .bad
section
variable {X : Cx} {W : WX} {o e f : Expr} {mo me mf : ME} {apos cpos : Pos}
end
/-! ### >= of pairs of whole numbers -/
def rGeP (K : PySem.W.Frag) : R2 := fun x y H Q => ∃ b c, PairV K H x b ∧ PairV K H y c ∧ Q (.bl (!ltP b c)) H
def dGeP (a b : D) (h : MH) : R D := match a, b with
  | .tup [.int i, .int j], .tup [.int k, .int l] => .ok (.bl (!ltP (i, j) (k, l))) h
  | _, _ => .bad
/-! ### walks -/
section
variable {Q : D → MH → Prop} {E : XE} {h : MH} {ρ : Slots}
end
end Mi

/-! `k not in d` of a dict with tuple keys that may be locked -/
namespace Mi
open PySem L2 PySem.Spec PyProof.Rows
def rNotInR (K : PySem.W.Frag) (w : World) : R2 := fun x y H Q => ∃ a p k xs, x = .ref a ∧ y = .ref p ∧ NkV K H k (.ref a) ∧ k.depth ≤ 8 ∧ NDctR w H p xs ∧ NKeys K H xs ∧ Q (.bl (!(atKey xs k).isSome)) H
def dRNotIn (a b : D) (h : MH) : R D := match nkT a, getR h b with
  | some k, some l => .ok (.bl (!(valT l k).isSome)) h
  | _, _ => .bad
end Mi

/-! len(set(xs)) of a list of tuples of whole numbers -/
namespace Mi
open PySem L2 PySem.Spec PyProof.Rows
def intsD50 : List D → Option (List Int)
  | [] => some []
  | .int i :: l => (intsD50 l).map (i :: ·)
  | _ => none
def tupsD50 : List D → Option (List (List Int))
  | [] => some []
  | .tup ds :: l => match intsD50 ds, tupsD50 l with
    | some k, some r => some (k :: r)
    | _, _ => none
  | _ => none
def mLenSetT (a : ME) : ME := fun ρ h => (a ρ h).bind fun x h1 => match x with
  | .ref i => match (getL h1 i).bind tupsD50 with
    | some ks => if ks.length < 64 then .ok (.int ks.eraseDups.length) h1 else .bad
    | none => .bad
  | _ => .bad
section
variable {g : G} {H : Hp} {μ : List Addr}
end
section
variable {X : Cx} {g : G} {W : WX} {ma : ME} {a : Expr} {p p2 q pos : Pos}
end
def dLenSetT : List D → MH → R D
  | [x], h1 => match x with
    | .ref i => match (getL h1 i).bind tupsD50 with
      | some ks => if ks.length < 64 then .ok (.int ks.eraseDups.length) h1 else .bad
      | none => .bad
    | _ => .bad
  | _, _ => .bad
section
variable {X : Cx} {g : G} {W : WX} {ma : ME} {a : Expr} {p p2 q pos : Pos}
end
end Mi

/-! for k, v in d.items(), d a dict with tuple keys (the dict is locked from then on) -/
namespace Mi
open PySem L2 PySem.Spec PyProof.Rows
/-- its entries, each in a new pair -/
def Itn2 (w : World) (d : Addr) (o : Obj) (xs : NE) (vs : List V) : L2.It :=
  ⟨fun i H => NFrz w H d o xs ∧ i < xs.length, fun i H x H' => ∃ T e v, xs[i]? = some e ∧ vs[i]? = some v ∧ x = .ref T ∧ H T = none ∧ H' = upd H T (.tup [.ref e.2.1, v]), fun i H => NFrz w H d o xs ∧ xs.length ≤ i⟩
def iItemsN (w : World) (td : TE) : TI := fun σ H R => td σ H fun x H1 => ∃ d xs vs, x = .ref d ∧ Vals vs (xs.map (·.2.2)) ∧ ((∃ o, NFrz w H1 d o xs ∧ R (Itn2 w d o xs vs) H1) ∨ (H1 d = some (DN w d xs) ∧ ∀ o, R (Itn2 w d o xs vs) (upd H1 d (.frz o (DN w d xs)))))
/-! ### by values -/
def itmT (l : List (D × D)) : List D := l.map fun e => .tup [e.1, e.2]
def mItemsT (ma : ME) : MI := fun ρ h => (ma ρ h).bind fun x h1 => match x with
  | .ref i => match h1[i]? with
    | some (.dT l) => .ok (itmT l, yes) (h1.set i (.fT l))
    | some (.fT l) => .ok (itmT l, yes) h1
    | _ => .bad
  | _ => .bad
section
variable {g : G} {H : Hp} {μ : List Addr}
end
section
variable {X : Cx} {W : WX} {e : Expr} {ma : ME} {apos cpos : Pos} {elts : List Expr} {kk : Nat} {tpos : Pos}
end
end Mi

/-! len(d), d a dict with tuple keys -/
namespace Mi
open PySem L2 PySem.Spec PyProof.Rows
def rLenN (K : PySem.W.Frag) (w : World) : List V → Hp → VK → Prop := fun xs H Q => ∃ (p : Addr) (ys : NE), xs = [.ref p] ∧ NDct w H p ys ∧ NKeys K H ys ∧ Q (.int ((ys.length : Nat) : Int)) H
def dLenN : List D → MH → R D
  | [x], h => match getN h x with
    | some l => .ok (.int l.length) h
    | none => .bad
  | _, _ => .bad
end Mi

/-! a, b, c = x, y, z with plain local names -/
namespace Mi
open PySem L2
def par3 (i j l : Nat) (ρ : Slots) (ds : List D) (h : MH) : Out := match ds with
  | [a, b, c] => .nx (((ρ.set i (some a)).set j (some b)).set l (some c)) h
  | _ => .bad
def mPar3 (i j l : Nat) (r : MA) : MS := fun ρ h => (r ρ h).out ρ fun ds h1 => par3 i j l ρ ds h1
end Mi

/-! list.count of texts -/
namespace Mi
open PySem L2 PySem.Spec PyProof.Rows
def rCntT (K : PySem.W.Frag) : V → List V → Hp → VK → Prop := fun x xs H Q => ∃ (p : Addr) (ns : List Str) (k : Str), x = .ref p ∧ xs = [.str k] ∧ SqL K H p (ns.map V.str) ∧ Q (.int (ns.count k : Nat)) H
section
variable {X : Cx}
end
def dLCountT : D → List D → MH → R D
  | .ref i, [.str k], h => match (getL h i).bind allStr with
    | some ns => .ok (.int (ns.count k : Nat)) h
    | none => .bad
  | _, _, _ => .bad
section
variable {g : G}
end
section
variable {h : MH} {Q : D → MH → Prop} {E : XE}
end
end Mi

/-! str.partition(sep) -/
namespace Mi
open PySem PySem.Spec PyProof.Rows L2
def rPartF : V → List V → Hp → VK → Prop := fun x xs H Q => ∃ a b, x = .str a ∧ xs = [.str b] ∧ (b.length == 0) = false ∧ a.length ≤ sizeLine ∧
    ∀ (p : Addr) (ob : Obj), H p = none → ob.dict = none → Q (.ref p) (upd H p (.frz ob (.tup [.str (Txt.partition a b).1, .str (Txt.partition a b).2.1, .str (Txt.partition a b).2.2])))
section
variable {X : Cx} {pins : List (Addr × Obj)} {s : Shared} {σ : L2.St} {H : Hp} {Q : VK}
theorem laid_partsF {x y z : Str} {t u v : Tok} {k : Nat} (I : L2.Inv X pins σ H s) (h : ∀ (p : Addr) (ob : Obj), H p = none → ob.dict = none → Q (.ref p) (upd H p (.frz ob (.tup [.str x, .str y, .str z])))) :
    EP X pins σ Q (.ref s.heap.objs.size) { s with toks := k, heap := s.heap.push { cls := .type "tuple", data := .seq [Value.str x t, .str y u, .str z v].toArray } } := by
  refine ⟨.ref s.heap.objs.size, upd H s.heap.objs.size (.frz { cls := .type "tuple", data := .seq [Value.str x t, .str y u, .str z v].toArray } (.tup [.str x, .str y, .str z])), ?_, rfl, h _ _ (I.hok.fresh (Nat.le_refl _)) rfl⟩
  exact I.laid (fun b ob e => Heap.get?_push_of_some _ e) (Nat.le_refl _) ⟨Heap.get?_push_size _ rfl, by show 3 ≤ sizeLine; decide, [Value.str x t, .str y u, .str z v], .cons ⟨t, rfl⟩ (.cons ⟨u, rfl⟩ (.cons ⟨v, rfl⟩ .nil)), PyProof.Rows.IsTup.new _ _⟩
theorem mt_partF : MtR X "str.partition" rPartF := by
  intro pins s σ H x xs v us Q I rx rs h
  obtain ⟨a, b, rfl, rfl, hb, hz, h⟩ := h
  obtain ⟨t, rfl⟩ := rx
  cases rs with
  | cons r1 rs =>
    cases rs
    obtain ⟨u, rfl⟩ := r1
    refine call_meets F.slot_str_partition (typeIs_str _ _ _) F.entry_str_partition (F.args_str_partition_2 _ _) (meets_str_partition a b t u hb hz) ?_
    unfold Txt.partition at h
    revert h
    cases Builtin.Str.occurrences a b 0 a.length 1 with
    | nil => intro h; exact laid_partsF I h
    | cons i r => intro h; exact laid_partsF I h
end
def dPart : D → List D → MH → R D
  | .str a, [.str b], h => if (b.length == 0) = false ∧ a.length ≤ 900000 then .ok (.tup [.str (Txt.partition a b).1, .str (Txt.partition a b).2.1, .str (Txt.partition a b).2.2]) h else .bad
  | _, _, _ => .bad
section
variable {g : G}
theorem sm_part : SM g rPartF dPart := by
  intro H μ h x xs a ds Q W hr va vs bk
  unfold dPart at bk
  split at bk
  · rename_i a b
    cases va
    cases vs with
    | cons vd t =>
      cases t
      cases vd
      split at bk
      · rename_i c
        exact ⟨a, b, rfl, rfl, c.1, sz6 (by omega), fun p ob hp ho => bk.newT hr (.cons (.str _) (.cons (.str _) (.cons (.str _) .nil))) hp ho⟩
      · exact bk.elim
  · exact bk.elim
end
section
variable {h : MH} {Q : D → MH → Prop} {E : XE} {x y : Str}
theorem w_part (hy : (y.length == 0) = false) (hx : x.length ≤ 900000) (q : Q (.tup [.str (Txt.partition x y).1, .str (Txt.partition x y).2.1, .str (Txt.partition x y).2.2]) h) : Sat (dPart (.str x) [.str y] h) Q E := w_eq (by simp only [dPart, if_pos (And.intro hy hx)]) q
end
end Mi

/-! len(d), d a dict with int or text keys -/
namespace Mi
open PySem L2 PySem.Spec PyProof.Rows
def rLenK : List V → Hp → VK → Prop := fun xs H Q => ∃ a kvs, xs = [V.ref a] ∧ H a = some (.dK kvs) ∧ Q (.int kvs.length) H
theorem cr_lenK {X : Cx} : CallR X (.builtin "len") rLenK := call_lenD
def dLenK : List D → MH → R D
  | [x], h => match getK h x with
    | some l => .ok (.int l.length) h
    | none => .bad
  | _, _ => .bad
theorem sn_lenK {g : G} : SN g rLenK dLenK := sn1 (fun H μ h x a Q W hr va bk => by
  simp only [dLenK] at bk
  split at bk
  · rename_i l e
    obtain ⟨i, p, kv, rfl, rfl, hi, q, hp, kr⟩ := getK_of hr va e
    rw [← kr.len] at bk
    exact ⟨p, kv, rfl, hp, bk.val hr (.int _)⟩
  · exact bk.elim) (fun _ => rfl) (fun a b l h => by simp [dLenK])
theorem w_lenK {h : MH} {i : Nat} {l : List (Key × D)} {Q : D → MH → Prop} {E : XE} (e : h[i]? = some (.dK l)) (q : Q (.int l.length) h) : Sat (dLenK [.ref i] h) Q E := w_eq (by simp only [dLenK, getK_ref e]) q
end Mi
namespace Mi
open PySem L2
def m_show_items_2042f : Nat → List D → MH → R D
 | 0 => fun _ _ => .bad
 | n + 1 => mFun 1 3
    (mSeq (mAsg 1 (mLst (mNil)))
     (mSeq (mFor (mIter (mVar 0)) (mgName 2)
     (mIf (mB (mBin dEq (mVar 2) (mC (.str (Str.ofString "*")))))
     (mDrop (mMeth isListD dAppend (mVar 1) (mCons (mC (.str (Str.ofString "*"))) (mNil))))
     (mIf (mB (mBin dEq (mCall dLen (mCons (mBin dIx (mVar 2) (mC (.int 1))) (mNil))) (mC (.int 0))))
     (mDrop (mMeth isListD dAppend (mVar 1) (mCons (mBin dIx (mVar 2) (mC (.int 0))) (mNil))))
     (mDrop (mMeth isListD dAppend (mVar 1) (mCons (mBin dAdd (mBin dAdd (mBin dAdd (mBin dIx (mVar 2) (mC (.int 0))) (mC (.str (Str.ofString "(")))) (mCall (m_show_items_2042f n) (mCons (mBin dIx (mVar 2) (mC (.int 1))) (mNil)))) (mC (.str (Str.ofString ")")))) (mNil)))))))
     (mRet (mMeth isStrD dJoin (mC (.str (Str.ofString " "))) (mCons (mVar 1) (mNil))))))
def m_show_turn_87647 : List D → MH → R D := mFun 1 1
 (mSeq (mIf (mB (mBin dEq (mCall dLen (mCons (mBin dIx (mVar 0) (mC (.int 1))) (mNil))) (mC (.int 0))))
 (mRet (mBin dAdd (mBin dIx (mVar 0) (mC (.int 0))) (mC (.str (Str.ofString " ->")))))
 (mSkip))
 (mRet (mBin dAdd (mBin dAdd (mBin dIx (mVar 0) (mC (.int 0))) (mC (.str (Str.ofString " -> ")))) (mCall (m_show_items_2042f 100) (mCons (mBin dIx (mVar 0) (mC (.int 1))) (mNil))))))
def m_show_turner_2abbc : List D → MH → R D := mFun 1 2
 (mRet (mMeth isStrD dJoin (mC (.str (Str.ofString "; "))) (mCons (mLc (mIter (mVar 0)) (mgName 1) (mYes) (mCall (m_show_turn_87647) (mCons (mVar 1) (mNil))) [1]) (mNil))))
def m_shown_9126a : Nat → List D → MH → R D
 | 0 => fun _ _ => .bad
 | n + 1 => mFun 1 4
    (mSeq (mAsg 1 (mLst (mNil)))
     (mSeq (mFor (mIter (mVar 0)) (mgName 2)
     (mSeq (mAsg 3 (mVar 2))
     (mSeq (mIf (mB (mBin dNe (mVar 2) (mC (.str (Str.ofString "*")))))
     (mSeq (mAsg 3 (mBin dIx (mVar 2) (mC (.int 0))))
     (mIf (mB (mBin dGt (mCall dLen (mCons (mBin dIx (mVar 2) (mC (.int 1))) (mNil))) (mC (.int 0))))
     (mAsg 3 (mBin dAdd (mBin dAdd (mBin dAdd (mVar 3) (mC (.str (Str.ofString "(")))) (mCall (m_shown_9126a n) (mCons (mBin dIx (mVar 2) (mC (.int 1))) (mNil)))) (mC (.str (Str.ofString ")")))))
     (mSkip)))
     (mSkip))
     (mDrop (mMeth isListD dAppend (mVar 1) (mCons (mVar 3) (mNil)))))))
     (mRet (mMeth isStrD dJoin (mC (.str (Str.ofString " "))) (mCons (mVar 1) (mNil))))))
def m_rule_shown_18506 : List D → MH → R D := mFun 1 1
 (mSeq (mIf (mB (mBin dEq (mCall dLen (mCons (mBin dIx (mVar 0) (mC (.int 1))) (mNil))) (mC (.int 0))))
 (mRet (mBin dAdd (mBin dIx (mVar 0) (mC (.int 0))) (mC (.str (Str.ofString " ->")))))
 (mSkip))
 (mRet (mBin dAdd (mBin dAdd (mBin dIx (mVar 0) (mC (.int 0))) (mC (.str (Str.ofString " -> ")))) (mCall (m_shown_9126a 100) (mCons (mBin dIx (mVar 0) (mC (.int 1))) (mNil))))))
def m_ItemReader___init___aeb78 : List D → MH → R D := mFun 2 2
 (mSeq (mSetFld [(Str.ofString "ItemReader")] (Str.ofString "text") (mVar 0) (mVar 1))
 (mSetFld [(Str.ofString "ItemReader")] (Str.ofString "at") (mVar 0) (mC (.int 0))))
def m_ItemReader_meets_df593 : List D → MH → R D := mFun 2 2
 (mSeq (mIf (mB (mBin dNe (mSl (mFld [(Str.ofString "ItemReader")] (Str.ofString "text") (mVar 0)) (mSome (mFld [(Str.ofString "ItemReader")] (Str.ofString "at") (mVar 0))) (mSome (mBin dAdd (mFld [(Str.ofString "ItemReader")] (Str.ofString "at") (mVar 0)) (mC (.int 1))))) (mVar 1)))
 (mRet (mC (.bl false)))
 (mSkip))
 (mSeq (mSetFld [(Str.ofString "ItemReader")] (Str.ofString "at") (mVar 0) (mBin dAdd (mFld [(Str.ofString "ItemReader")] (Str.ofString "at") (mVar 0)) (mC (.int 1))))
 (mRet (mC (.bl true)))))
def m_is_name_e273d : List D → MH → R D := mFun 1 2
 (mSeq (mIf (mOr (mNot (mB (mIsi "str" (mVar 0)))) (mOr (mB (mBin dLt (mCall dLen (mCons (mVar 0) (mNil))) (mC (.int 1)))) (mB (mBin dGt (mCall dLen (mCons (mVar 0) (mNil))) (mC (.int 8))))))
 (mRet (mC (.bl false)))
 (mSkip))
 (mSeq (mFor (mIter (mVar 0)) (mgName 1)
 (mIf (mB (mBin dNotIn (mVar 1) (mC (.str (Str.ofString "abcdefghijklmnopqrstuvwxyz")))))
 (mRet (mC (.bl false)))
 (mSkip)))
 (mRet (mC (.bl true)))))
def m_ItemReader_item_b5416 (S : Nat → List D → MH → R D) : List D → MH → R D := mFun 1 4
 (mSeq (mIf (mB (mMethI (Str.ofString "meets") [((Str.ofString "ItemReader"), (m_ItemReader_meets_df593))] (mVar 0) (mCons (mC (.str (Str.ofString "*"))) (mNil))))
 (mRet (mC (.str (Str.ofString "*"))))
 (mSkip))
 (mSeq (mAsg 1 (mFld [(Str.ofString "ItemReader")] (Str.ofString "at") (mVar 0)))
 (mSeq (mWhile 100000 (mAnd (mB (mBin dLt (mFld [(Str.ofString "ItemReader")] (Str.ofString "at") (mVar 0)) (mCall dLen (mCons (mFld [(Str.ofString "ItemReader")] (Str.ofString "text") (mVar 0)) (mNil))))) (mB (mBin dIn (mBin dIx (mFld [(Str.ofString "ItemReader")] (Str.ofString "text") (mVar 0)) (mFld [(Str.ofString "ItemReader")] (Str.ofString "at") (mVar 0))) (mC (.str (Str.ofString "abcdefghijklmnopqrstuvwxyz"))))))
 (mSetFld [(Str.ofString "ItemReader")] (Str.ofString "at") (mVar 0) (mBin dAdd (mFld [(Str.ofString "ItemReader")] (Str.ofString "at") (mVar 0)) (mC (.int 1)))))
 (mSeq (mAsg 2 (mSl (mFld [(Str.ofString "ItemReader")] (Str.ofString "text") (mVar 0)) (mSome (mVar 1)) (mSome (mFld [(Str.ofString "ItemReader")] (Str.ofString "at") (mVar 0)))))
 (mSeq (mIf (mNot (mB (mCall (m_is_name_e273d) (mCons (mVar 2) (mNil)))))
 (mRet (mC .non))
 (mSkip))
 (mSeq (mIf (mNot (mB (mMethI (Str.ofString "meets") [((Str.ofString "ItemReader"), (m_ItemReader_meets_df593))] (mVar 0) (mCons (mC (.str (Str.ofString "("))) (mNil)))))
 (mRet (mTup (mCons (mVar 2) (mCons (mTup (mNil)) (mNil)))))
 (mSkip))
 (mSeq (mAsg 3 (mMethI (Str.ofString "item_row") [((Str.ofString "ItemReader"), (S 1))] (mVar 0) (mNil)))
 (mSeq (mIf (mOr (mB (mBin dIsN (mVar 3) (mC .non))) (mNot (mB (mMethI (Str.ofString "meets") [((Str.ofString "ItemReader"), (m_ItemReader_meets_df593))] (mVar 0) (mCons (mC (.str (Str.ofString ")"))) (mNil))))))
 (mRet (mC .non))
 (mSkip))
 (mRet (mTup (mCons (mVar 2) (mCons (mVar 3) (mNil)))))))))))))
def m_ItemReader_item_row_ccf77 (S : Nat → List D → MH → R D) : List D → MH → R D := mFun 1 3
 (mSeq (mAsg 1 (mLst (mNil)))
 (mWhile 100000 (mB (mC (.bl true)))
 (mSeq (mAsg 2 (mMethI (Str.ofString "item") [((Str.ofString "ItemReader"), (S 0))] (mVar 0) (mNil)))
 (mSeq (mIf (mB (mBin dIsN (mVar 2) (mC .non)))
 (mRet (mC .non))
 (mSkip))
 (mSeq (mDrop (mMeth isListD dAppend (mVar 1) (mCons (mVar 2) (mNil))))
 (mIf (mNot (mB (mMethI (Str.ofString "meets") [((Str.ofString "ItemReader"), (m_ItemReader_meets_df593))] (mVar 0) (mCons (mC (.str (Str.ofString " "))) (mNil)))))
 (mRet (mCall dTuple (mCons (mVar 1) (mNil))))
 (mSkip)))))))
def m_scc_ItemReader_item_79300 : Nat → Nat → List D → MH → R D
 | 0 => fun _ _ _ => .bad
 | n + 1 => fun i => match i with
   | 0 => m_ItemReader_item_b5416 (m_scc_ItemReader_item_79300 n)
   | 1 => m_ItemReader_item_row_ccf77 (m_scc_ItemReader_item_79300 n)
   | _ => fun _ _ => .bad
def m_read_items_0cc23 : List D → MH → R D := mFun 1 3
 (mSeq (mAsg 1 (mNew (Str.ofString "ItemReader") (m_ItemReader___init___aeb78) (mCons (mVar 0) (mNil))))
 (mSeq (mAsg 2 (mMethI (Str.ofString "item_row") [((Str.ofString "ItemReader"), (m_scc_ItemReader_item_79300 70 1))] (mVar 1) (mNil)))
 (mSeq (mIf (mB (mBin dLt (mFld [(Str.ofString "ItemReader")] (Str.ofString "at") (mVar 1)) (mCall dLen (mCons (mVar 0) (mNil)))))
 (mRet (mC .non))
 (mSkip))
 (mRet (mVar 2)))))
def m_read_turn_2bcea : List D → MH → R D := mFun 1 5
 (mSeq (mAsgT (mgTup (mgCons (mgName 2) (mgCons (mgName 3) (mgCons (mgName 4) (mgNil))))) (mMeth isStrD dPart (mVar 0) (mCons (mC (.str (Str.ofString " ->"))) (mNil))))
 (mSeq (mIf (mOr (mNot (mB (mCall (m_is_name_e273d) (mCons (mVar 2) (mNil))))) (mB (mBin dEq (mVar 3) (mC (.str (Str.ofString ""))))))
 (mRet (mC .non))
 (mSkip))
 (mSeq (mIf (mB (mBin dEq (mVar 4) (mC (.str (Str.ofString "")))))
 (mRet (mTup (mCons (mVar 2) (mCons (mTup (mNil)) (mNil)))))
 (mSkip))
 (mSeq (mIf (mNot (mB (mMeth isStrD dStartsw (mVar 4) (mCons (mC (.str (Str.ofString " "))) (mNil)))))
 (mRet (mC .non))
 (mSkip))
 (mSeq (mAsg 1 (mCall (m_read_items_0cc23) (mCons (mSl (mVar 4) (mSome (mC (.int 1))) (mNo)) (mNil))))
 (mSeq (mIf (mB (mBin dIsN (mVar 1) (mC .non)))
 (mRet (mC .non))
 (mSkip))
 (mRet (mTup (mCons (mVar 2) (mCons (mVar 1) (mNil)))))))))))
def m_read_turner_c16d3 : List D → MH → R D := mFun 1 6
 (mSeq (mIf (mB (mBin dEq (mMeth isStrD dStripC (mVar 0) (mCons (mC (.str (Str.ofString " "))) (mNil))) (mC (.str (Str.ofString "")))))
 (mRet (mTup (mNil)))
 (mSkip))
 (mSeq (mAsg 1 (mMeth isStrD dSplit (mVar 0) (mCons (mC (.str (Str.ofString ";"))) (mNil))))
 (mSeq (mIf (mB (mBin dGt (mCall dLen (mCons (mVar 1) (mNil))) (mC (.int 12))))
 (mRaise (Str.ofString "NoTurner") (Str.ofString "row") (mC (.int 12)))
 (mSkip))
 (mSeq (mAsg 2 (mLc (mIter (mVar 1)) (mgName 5) (mYes) (mCall (m_read_turn_2bcea) (mCons (mMeth isStrD dStripC (mVar 5) (mCons (mC (.str (Str.ofString " "))) (mNil))) (mNil))) [5]))
 (mSeq (mIf (mB (mBin dIn (mC .non) (mVar 2)))
 (mRaise (Str.ofString "NoTurner") (Str.ofString "row") (mMeth isListD dLIdx (mVar 2) (mCons (mC .non) (mNil))))
 (mSkip))
 (mSeq (mAsg 3 (mDict0))
 (mSeq (mFor (mIter (mVar 2)) (mgName 4)
 (mSeq (mIf (mB (mBin dDIn (mBin dIx (mVar 4) (mC (.int 0))) (mVar 3)))
 (mRaise (Str.ofString "NoTurner") (Str.ofString "row") (mCall dLenK (mCons (mVar 3) (mNil))))
 (mSkip))
 (mDSet (mVar 3) (mBin dIx (mVar 4) (mC (.int 0))) (mC (.bl true)))))
 (mRet (mCall dTuple (mCons (mVar 2) (mNil)))))))))))
end Mi
namespace Mi
open PySem L2
local macro_rules | `(tactic| walk_at "gl") => `(tactic| first
  | assumption
  | (refine Own.atL (h0 := ?_) (L := ?_) ?_ 0 ?_; rotate_left; rotate_left; assumption; rfl)
  | (refine Own.atL (h0 := ?_) (L := ?_) ?_ 1 ?_; rotate_left; rotate_left; assumption; rfl)
  | (refine Own.atL (h0 := ?_) (L := ?_) ?_ 2 ?_; rotate_left; rotate_left; assumption; rfl)
  | (refine Own.atL (h0 := ?_) (L := ?_) ?_ 3 ?_; rotate_left; rotate_left; assumption; rfl)
  | (refine Own.atL (h0 := ?_) (L := ?_) ?_ 4 ?_; rotate_left; rotate_left; assumption; rfl)
  | (refine Own.atL (h0 := ?_) (L := ?_) ?_ 5 ?_; rotate_left; rotate_left; assumption; rfl)
  | (refine Own.atL (h0 := ?_) (L := ?_) ?_ 6 ?_; rotate_left; rotate_left; assumption; rfl)
  | (refine Own.atL (h0 := ?_) (L := ?_) ?_ 7 ?_; rotate_left; rotate_left; assumption; rfl)
  | (refine Own.atL (h0 := ?_) (L := ?_) ?_ 8 ?_; rotate_left; rotate_left; assumption; rfl)
  | (refine Own.atL (h0 := ?_) (L := ?_) ?_ 9 ?_; rotate_left; rotate_left; assumption; rfl)
  | (refine Own.getL (h0 := ?_) (L := ?_) ?_ ?_; rotate_left; rotate_left; assumption; assumption))
local macro_rules | `(tactic| walk_at "il") => `(tactic| first
  | (refine Own.isL (h0 := ?_) (L := ?_) (l := ?_) ?_ 0 ?_; rotate_left; rotate_left; rotate_left; assumption; rfl)
  | (refine Own.isL (h0 := ?_) (L := ?_) (l := ?_) ?_ 1 ?_; rotate_left; rotate_left; rotate_left; assumption; rfl)
  | (refine Own.isL (h0 := ?_) (L := ?_) (l := ?_) ?_ 2 ?_; rotate_left; rotate_left; rotate_left; assumption; rfl)
  | (refine Own.isL (h0 := ?_) (L := ?_) (l := ?_) ?_ 3 ?_; rotate_left; rotate_left; rotate_left; assumption; rfl)
  | (refine Own.isL (h0 := ?_) (L := ?_) (l := ?_) ?_ 4 ?_; rotate_left; rotate_left; rotate_left; assumption; rfl)
  | (refine Own.isL (h0 := ?_) (L := ?_) (l := ?_) ?_ 5 ?_; rotate_left; rotate_left; rotate_left; assumption; rfl)
  | (refine Own.isL (h0 := ?_) (L := ?_) (l := ?_) ?_ 6 ?_; rotate_left; rotate_left; rotate_left; assumption; rfl)
  | (refine Own.isL (h0 := ?_) (L := ?_) (l := ?_) ?_ 7 ?_; rotate_left; rotate_left; rotate_left; assumption; rfl)
  | (refine Own.isL (h0 := ?_) (L := ?_) (l := ?_) ?_ 8 ?_; rotate_left; rotate_left; rotate_left; assumption; rfl)
  | (refine Own.isL (h0 := ?_) (L := ?_) (l := ?_) ?_ 9 ?_; rotate_left; rotate_left; rotate_left; assumption; rfl))
local macro_rules | `(tactic| walk_at "bd") => `(tactic| first | assumption | omega | (simp; done) | (simp; omega) | (simp [*]; done) | (simp [*]; omega))
local macro_rules | `(tactic| walk_at "w") => `(tactic| first
  | ((with_reducible refine w_xfK ?_ ?_ ?_); (exact List.mem_cons_self); (decide))
  | with_reducible refine w_eq (isN_xo _) ?_
  | with_reducible refine w_eq (dNeg_int _ _) ?_)
local macro_rules | `(tactic| walk_at "w") => `(tactic| first
  | ((with_reducible refine w_addT ?_ ?_); walk_at "bd")
  | ((with_reducible refine ⟨?_, ?_⟩); (with_reducible (show isListD (.ref _) _ = true)); walk_at "il")
  | with_reducible refine w_tryK ?_
  | with_reducible refine w_raise ?_
  | with_reducible refine w_raise0 ?_
  | with_reducible refine w_isX ?_
  | ((with_reducible refine w_isXK (k := ?_) ?_ ?_); rotate_left; (first | with_reducible exact lkA | (apply lkB; decide +kernel; exact lkA) | (apply lkB; decide +kernel; apply lkB; decide +kernel; exact lkA) | (apply lkB; decide +kernel; apply lkB; decide +kernel; apply lkB; decide +kernel; exact lkA)))
  | with_reducible refine w_xf ?_)
local macro_rules | `(tactic| walk_at "w") => `(tactic| first
  | with_reducible refine w_eq (isi_bool_int _ _) ?_
  | with_reducible refine w_eq (isi_str_int _ _) ?_
  | ((with_reducible refine w_lenLm (α := ?_) (f := ?_) (l := ?_) ?_ ?_); rotate_left; rotate_left; rotate_left; walk_at "gl")
  | ((with_reducible refine w_lenL (l := ?_) ?_ ?_); rotate_left; walk_at "gl")
  | ((with_reducible refine w_iterL (l := ?_) ?_ ?_); rotate_left; walk_at "gl"; dsimp only)
  | ((with_reducible refine w_tupL (l := ?_) ?_ ?_); rotate_left; walk_at "gl")
  | ((with_reducible refine w_ixT (d := ?_) ?_ ?_); rotate_left; (first | with_reducible assumption | rfl))
  | ((with_reducible refine w_ixL (l := ?_) (d := ?_) ?_ ?_ ?_); rotate_left; rotate_left; walk_at "gl"; (first | with_reducible assumption | rfl)))
local macro_rules | `(tactic| walk_at "w") => `(tactic| first
  | with_reducible refine w_chK ?_
  | with_reducible refine w_retN ?_
  | with_reducible refine w_brk ?_
  | with_reducible refine w_cont ?_
  | with_reducible refine w_asgT ?_
  | with_reducible refine w_eq (isi_str_str _ _) ?_
  | with_reducible refine w_eq (isi_int_int _ _) ?_
  | with_reducible refine w_eq (isi_tup_tup _ _) ?_)
local macro_rules | `(tactic| walk_at "w") => `(tactic| first
  | with_reducible refine w_revL ?_
  | with_reducible refine w_listRg1 ?_
  | with_reducible refine w_tindex ?_
  | with_reducible refine w_setIx ?_
  | with_reducible refine w_un ?_
  | with_reducible refine w_rev1 ?_
  | with_reducible refine w_rev2 ?_
  | with_reducible refine w_chain ?_)
local macro_rules | `(tactic| walk_at "w") => `(tactic| first
  | with_reducible refine w_zip ?_
  | with_reducible refine w_ifE ?_
  | with_reducible refine w_andV ?_
  | with_reducible refine w_orV ?_
  | with_reducible refine w_notV ?_
  | with_reducible refine w_andK ?_
  | with_reducible refine w_orK ?_
  | with_reducible refine w_notK ?_)
local macro_rules | `(tactic| walk_at "w") => `(tactic| first
  | with_reducible refine w_eq (iter1_tup _ _) ?_
  | with_reducible refine w_eq (iter1_str _ _) ?_
  | with_reducible refine w_sl ?_
  | with_reducible refine w_no ?_
  | with_reducible refine w_some ?_
  | with_reducible refine w_unI ?_
  | with_reducible refine w_meth ?_
  | with_reducible refine w_isi ?_)
local macro_rules | `(tactic| walk_at "w") => `(tactic| first
  | with_reducible refine w_lst ?_
  | with_reducible refine w_lc ?_
  | with_reducible refine w_for ?_
  | with_reducible refine w_range1 ?_
  | with_reducible refine w_range2 ?_
  | ((with_reducible refine w_dR1 ?_ ?_); (first | decide | omega))
  | ((with_reducible refine w_dR2 ?_ ?_); (first | decide | omega))
  | with_reducible refine w_iter ?_)
local macro_rules | `(tactic| walk_at "w") => `(tactic| first
  | with_reducible refine w_or ?_
  | with_reducible refine br_n ?_
  | with_reducible refine br_tt ?_
  | with_reducible refine br_ff ?_
  | ((with_reducible refine br_dt ?_ ?_); (first | assumption | omega | rfl))
  | ((with_reducible refine br_df ?_ ?_); (first | assumption | omega))
  | with_reducible refine w_tup ?_
  | ((with_reducible refine w_toTup ?_ ?_); exact (by simp)))
local macro_rules | `(tactic| walk_at "w") => `(tactic| first
  | with_reducible refine w_lenTm ?_
  | with_reducible refine w_eq (dLen_tup _ _) ?_
  | with_reducible refine w_eq (dSl_tup _ _ _ _) ?_
  | with_reducible refine w_eq (dMax_ev _ _ _) ?_
  | with_reducible refine w_eq (dMin_ev _ _ _) ?_
  | with_reducible refine w_eq (dAbs_ev _ _) ?_
  | with_reducible refine w_not ?_
  | with_reducible refine w_and ?_)
local macro_rules | `(tactic| walk_at "w") => `(tactic| first
  | with_reducible refine w_eq (dGe_int _ _ _) ?_
  | with_reducible refine w_eq (dNe_int _ _ _) ?_
  | ((with_reducible refine w_mod ?_ ?_); (first | assumption | decide | omega))
  | ((with_reducible refine w_fdiv ?_ ?_); (first | assumption | decide | omega))
  | ((with_reducible refine w_mulS ?_ ?_); (first | decide | omega))
  | ((with_reducible refine w_addS ?_ ?_); (first | assumption | decide | omega))
  | ((with_reducible refine w_lenS ?_ ?_); (first | assumption | decide | omega))
  | ((with_reducible refine w_slS ?_ ?_); (first | assumption | decide | omega)))
local macro_rules | `(tactic| walk_at "w") => `(tactic| first
  | with_reducible refine w_eq (dEq_int _ _ _) ?_
  | with_reducible refine w_eq (dEq_str _ _ _) ?_
  | with_reducible refine w_eq (dNe_strs _ _ _) ?_
  | with_reducible refine w_eq (dEq_bls _ _ _) ?_
  | with_reducible refine w_eq (dNe_bls _ _ _) ?_
  | with_reducible refine w_eq (dLt_int _ _ _) ?_
  | with_reducible refine w_eq (dLe_int _ _ _) ?_
  | with_reducible refine w_eq (dGt_int _ _ _) ?_)
local macro_rules | `(tactic| walk_at "w") => `(tactic| first
  | with_reducible refine w_if ?_
  | with_reducible refine w_B ?_
  | with_reducible refine w_unB ?_
  | with_reducible refine w_ret ?_
  | with_reducible refine w_drop ?_
  | with_reducible refine w_skip ?_
  | with_reducible refine w_eq (dAdd_int _ _ _) ?_
  | with_reducible refine w_eq (dSub_int _ _ _) ?_)
local macro_rules | `(tactic| walk_at "w") => `(tactic| first
  | with_reducible refine w_seq ?_
  | with_reducible refine w_asg ?_
  | with_reducible refine w_cons ?_
  | with_reducible refine w_nil ?_
  | with_reducible refine w_c ?_
  | ((with_reducible refine w_var (d := ?_) ?_ ?_); rotate_left; rfl)
  | with_reducible refine w_bin ?_
  | with_reducible refine w_call ?_)
local macro_rules | `(tactic| walk_at "go") => `(tactic| (repeat (walk_at "w")); try dsimp only [List.set])
local macro_rules | `(tactic| walk_at "fn") => `(tactic| ((refine w_fun ?_); simp only [startD, List.map_cons, List.map_nil, List.reduceReplicate, Nat.reduceSub, List.cons_append, List.nil_append]; walk_at "go"))
section
open PySem L2

local macro_rules | `(tactic| walk_at "lk") => `(tactic| first | with_reducible exact lkA | (apply lkB; decide +kernel; walk_at "lk"))
local macro_rules | `(tactic| walk_at "mk") => `(tactic| first | with_reducible exact mkA | (apply mkB; decide +kernel; walk_at "mk"))
local macro_rules | `(tactic| walk_at "fk") => `(tactic| first | with_reducible exact fkA | exact fkN | (apply fkB; decide +kernel; walk_at "fk"))
local macro_rules | `(tactic| walk_at "cs") => `(tactic| first | exact List.mem_cons_self | (apply List.mem_cons_of_mem; walk_at "cs"))
local macro_rules | `(tactic| walk_at "w") => `(tactic| first
  | with_reducible refine w_fld ?_
  | ((with_reducible refine w_fldK (c := ?_) (fs := ?_) (v := ?_) ?_ ?_ ?_ ?_); rotate_left; rotate_left; rotate_left; (with_reducible assumption); (walk_at "cs"); (walk_at "fk"))
  | with_reducible refine w_setFld ?_
  | with_reducible refine w_new ?_
  | with_reducible refine w_methI ?_
  | ((with_reducible refine w_methK (c := ?_) (fs := ?_) (F := ?_) ?_ ?_ ?_ ?_); rotate_left; rotate_left; rotate_left; (with_reducible assumption); (walk_at "mk"); (walk_at "fk"))
  | with_reducible refine w_isC ?_
  | ((with_reducible refine w_isCK (c := ?_) (fs := ?_) (k := ?_) ?_ ?_ ?_); rotate_left; rotate_left; rotate_left; (with_reducible assumption); (walk_at "lk"))
  | with_reducible refine w_callD ?_
  | with_reducible refine w_mDSet ?_
  | with_reducible refine w_eq (nN_non _) ?_
  | with_reducible refine w_eq (nN_int _ _) ?_
  | with_reducible refine w_eq (nN_tup _ _) ?_
  | with_reducible refine w_eq (nN_ref _ _) ?_
  | with_reducible refine w_eq (iN_non _) ?_
  | with_reducible refine w_eq (iN_int _ _) ?_
  | with_reducible refine w_eq (iN_tup _ _) ?_
  | with_reducible refine w_eq (iN_ref _ _) ?_)
def Rd72 (ir : Nat) (T : Str) (h : MH) (r : List Nat) : Prop := ∃ a : Nat, h[ir]? = some (.ins (Str.ofString "ItemReader") (rdF T a)) ∧ a ≤ T.cps.toList.length ∧ T.cps.toList.drop a = r
theorem Rd72.kr {ir jr : Nat} {T : Str} {h h' : MH} {r : List Nat} (x : Rd72 ir T h r) (k : Kr jr h h') (hne : ir ≠ jr) : Rd72 ir T h' r := by
  obtain ⟨a, e1, e2⟩ := x
  exact ⟨a, k ir _ hne e1, e2⟩
theorem Rd72.pre {ir : Nat} {T : Str} {h h' : MH} {r : List Nat} (x : Rd72 ir T h r) (p : h <+: h') : Rd72 ir T h' r := by
  obtain ⟨a, e1, e2⟩ := x
  exact ⟨a, pre_get p e1, e2⟩
theorem Rd72.len {ir : Nat} {T : Str} {h : MH} {r : List Nat} (x : Rd72 ir T h r) : r.length ≤ T.length := by
  obtain ⟨a, _, e2, e3⟩ := x
  rw [← e3, List.length_drop, str_len]
  omega
theorem drop_one72 {T : List Nat} {a c : Nat} {r' : List Nat} (e : T.drop a = c :: r') : a < T.length ∧ T.drop (a + 1) = r' := by
  have hb : a < T.length := by
    rcases Nat.lt_or_ge a T.length with z | z
    · exact z
    · rw [List.drop_of_length_le z] at e; cases e
  refine ⟨hb, ?_⟩
  rw [← List.drop_drop, e]
  rfl
theorem k_meets72 {ir : Nat} {T : Str} (hT : T.length ≤ 90000) {h : MH} {r : List Nat} {c : Nat} (x : Rd72 ir T h r) :
    Sat (m_ItemReader_meets_df593 [.ref ir, .str (mS [c])] h) (fun y h' => Kr ir h h' ∧ h'.length = h.length ∧ ((∃ r', r = c :: r' ∧ y = .bl true ∧ Rd72 ir T h' r') ∨ ((∀ r', r ≠ c :: r') ∧ y = .bl false ∧ Rd72 ir T h' r))) noX := by
  have hTl : T.cps.toList.length ≤ 90000 := by rw [← str_len]; exact hT
  obtain ⟨a, e1, e2, e3⟩ := x
  walk_at "fn"
  rw [cutR_one e2, e3]
  walk_at "go"
  refine br_d (fun q => ?_) (fun q => ?_)
  · walk_at "go"
    have hd : ∃ r', r = c :: r' := by
      rw [mS_inj] at q
      cases r with
      | nil => simp at q
      | cons d r' => simp at q; exact ⟨r', by rw [q]⟩
    obtain ⟨r', rfl⟩ := hd
    obtain ⟨hb, hd2⟩ := drop_one72 e3
    have eb : (a : Int) + 1 = ((a + 1 : Nat) : Int) := by omega
    rw [eb]
    refine w_setFldK e1 (by simp) (by simp) ?_
    rw [putAtR]
    walk_at "go"
    exact ⟨Kr.set, List.length_set, .inl ⟨r', rfl, rfl, a + 1, List.getElem?_set_self (List.getElem?_eq_some_iff.mp e1).1, by omega, hd2⟩⟩
  · walk_at "go"
    refine ⟨Kr.refl, rfl, .inr ⟨fun r' e => ?_, rfl, a, e1, e2, e3⟩⟩
    rw [e] at q
    exact q rfl

theorem w_isNIt72 {i : It} {h : MH} {Q : D → MH → Prop} {E : XE} (q : Q (.bl false) h) : Sat (dIsN i.toD .non h) Q E := by
  refine w_eq ?_ q
  cases i with
  | hole => rw [It.toD]; rfl
  | nd x l => rw [It.toD]; rfl
def ItQ72 (ir : Nat) (T : Str) (n : Nat) (h : MH) (r : List Nat) (y : D) (h' : MH) : Prop := Kr ir h h' ∧ h.length ≤ h'.length ∧ match pIt72 n r with
  | .ok (i, q) => y = i.toD ∧ Rd72 ir T h' q
  | .no => y = .non ∧ ∃ q, Rd72 ir T h' q
  | .out => False
def RowQ72 (ir : Nat) (T : Str) (h : MH) (p : PR72 (List It × List Nat)) (y : D) (h' : MH) : Prop := Kr ir h h' ∧ h.length ≤ h'.length ∧ match p with
  | .ok (its, q) => y = .tup (its.map It.toD) ∧ Rd72 ir T h' q
  | .no => y = .non ∧ ∃ q, Rd72 ir T h' q
  | .out => False
def accP72 (acc : List It) : PR72 (List It × List Nat) → PR72 (List It × List Nat)
  | .ok (its, q) => .ok (acc ++ its, q)
  | .no => .no
  | .out => .out
theorem pRow_blank72 {f : List Nat → PR72 (It × List Nat)} {k : Nat} {l r' : List Nat} {i : It} (e : f l = .ok (i, 32 :: r')) : pRow72 f (k + 1) l = (match pRow72 f k r' with
        | .out => .out
        | .no => .no
        | .ok (its, q) => .ok (i :: its, q)) := by rw [pRow72, e]; first | rfl | simp
theorem pRow_end72 {f : List Nat → PR72 (It × List Nat)} {k : Nat} {l q : List Nat} {i : It} (e : f l = .ok (i, q)) (hq : ∀ r', q ≠ 32 :: r') : pRow72 f (k + 1) l = .ok ([i], q) := by
  rw [pRow72, e]
  cases q with
  | nil => rfl
  | cons c q =>
    have : c ≠ 32 := fun z => hq q (by rw [z])
    dsimp only
    split
    · rename_i e; cases e; exact (this rfl).elim
    · rfl
theorem k_row72 {n m : Nat} {ir : Nat} {T : Str} (hT : T.length ≤ 90000) (hm : 1 ≤ m)
    (ih : ∀ (h : MH) (r : List Nat), Rd72 ir T h r → pIt72 n r ≠ .out → Sat (m_scc_ItemReader_item_79300 (m - 1) 0 [.ref ir] h) (ItQ72 ir T n h r) noX) {h : MH} {r : List Nat} (x : Rd72 ir T h r) (hout : pRow72 (pIt72 n) (r.length + 1) r ≠ .out) :
    Sat (m_scc_ItemReader_item_79300 m 1 [.ref ir] h) (RowQ72 ir T h (pRow72 (pIt72 n) (r.length + 1) r)) noX := by
  obtain ⟨m, rfl⟩ : ∃ k, m = k + 1 := ⟨m - 1, by omega⟩
  rw [Nat.add_sub_cancel] at ih
  have hrl := x.len
  obtain ⟨a0, ea0, _⟩ := id x
  have hir := (List.getElem?_eq_some_iff.mp ea0).1
  show Sat (m_ItemReader_item_row_ccf77 (m_scc_ItemReader_item_79300 m) [.ref ir] h) _ _
  generalize hP : pRow72 (pIt72 n) (r.length + 1) r = P at *
  generalize m_scc_ItemReader_item_79300 m = SS at *
  walk_at "fn"
  refine o_new (Own.nil h) (by simp) fun iL h1 o1 => ?_
  have hiL : h.length ≤ iL := (o1.cell _ List.mem_cons_self).1
  walk_at "go"
  refine w_while (fun mm ρ h' => ∃ (acc : List It) (r' : List Nat) (o2 : Option D), ρ = [some (.ref ir), some (.ref iL), o2] ∧ h'[iL]? = some (.lst (acc.map It.toD)) ∧ Rd72 ir T h' r' ∧ Kr ir h h' ∧ h.length ≤ h'.length ∧ accP72 acc (pRow72 (pIt72 n) mm r') = P ∧ acc.length + mm ≤ r.length + 1) (r.length + 1) (by omega)
    ⟨[], r, none, rfl, o1.at 0 rfl, x.pre o1.pre, Kr.pre o1.pre, o1.pre.length_le, by rw [hP]; cases P <;> rfl, by simp⟩ ?_
  rintro mm ρ h2 ⟨acc, r', o2, rfl, eL, x2, k2, l2, hacc, hml⟩
  have hlL := (List.getElem?_eq_some_iff.mp eL).1
  obtain ⟨a2, ea2, _⟩ := id x2
  cases mm with
  | zero =>
    rw [pRow72] at hacc
    exact (hout hacc.symm).elim
  | succ mm =>
  have hno : pIt72 n r' ≠ .out := fun e => by
    rw [pRow72, e] at hacc
    exact hout hacc.symm
  walk_at "go"
  refine (ih h2 r' x2 hno).mono ?_
  rintro y h3 ⟨k3, l3, hy⟩
  have eL3 := k3 iL _ (by omega) eL
  have k03 := k2.trans k3
  cases hp : pIt72 n r' with
  | out => exact (hno hp).elim
  | no =>
    rw [hp] at hy
    obtain ⟨rfl, q, xq⟩ := hy
    have hPe : P = .no := by rw [← hacc, pRow72, hp]; rfl
    walk_at "go"
    refine ⟨k03, by omega, ?_⟩
    rw [hPe]
    exact ⟨rfl, q, xq⟩
  | ok iq =>
    obtain ⟨i, q⟩ := iq
    rw [hp] at hy
    obtain ⟨rfl, xq⟩ := hy
    obtain ⟨a3, ea3, _⟩ := id xq
    walk_at "go"
    refine w_isNIt72 ?_
    walk_at "go"
    refine ⟨by rw [isListD_ref, getL_of eL3]; rfl, ?_⟩
    walk_at "go"
    refine w_app eL3 (by rw [List.length_map]; omega) ?_
    have hl3 := (List.getElem?_eq_some_iff.mp eL3).1
    have eL4 : (h3.set iL (.lst (acc.map It.toD ++ [i.toD])))[iL]? = some (.lst ((acc ++ [i]).map It.toD)) := by
      rw [List.getElem?_set_self hl3, List.map_append]; rfl
    have k34 : Kr iL h3 (h3.set iL (.lst (acc.map It.toD ++ [i.toD]))) := Kr.set
    have l34 : (h3.set iL (.lst (acc.map It.toD ++ [i.toD]))).length = h3.length := List.length_set
    generalize h3.set iL (.lst (acc.map It.toD ++ [i.toD])) = h4 at *
    have x4 := xq.kr k34 (by omega)
    have k04 : Kr ir h h4 := fun j o hj e => by
      have hjl := (List.getElem?_eq_some_iff.mp e).1
      exact k34 j o (by omega) (k03 j o hj e)
    obtain ⟨a4, ea4, _⟩ := id x4
    walk_at "go"
    rw [sR_sp]
    refine (k_meets72 hT x4).mono ?_
    rintro y h5 ⟨k5, l5, hy⟩
    have eL5 := k5 iL _ (by omega) eL4
    have gL5 := getL_of eL5
    rcases hy with ⟨q', rfl, rfl, x5⟩ | ⟨hnq, rfl, x5⟩
    · walk_at "go"
      refine ⟨mm, by omega, acc ++ [i], q', _, rfl, eL5, x5, k04.trans k5, by omega, ?_, by simp; omega⟩
      rw [← hacc, pRow_blank72 hp]
      cases hq : pRow72 (pIt72 n) mm q' with
      | out => rfl
      | no => rfl
      | ok w => obtain ⟨its, z⟩ := w; simp [accP72]
    · have hPe : P = .ok (acc ++ [i], q) := by
        rw [← hacc, pRow_end72 hp hnq]
        rfl
      walk_at "go"
      refine ⟨k04.trans k5, by omega, ?_⟩
      rw [hPe]
      exact ⟨rfl, x5⟩

theorem abc72 : (Str.ofString "abcdefghijklmnopqrstuvwxyz").cps.toList = List.map (fun k => 97 + k) (List.range 26) := by decide +kernel
theorem ltr_abc72 {c : Nat} : c ∈ (Str.ofString "abcdefghijklmnopqrstuvwxyz").cps.toList ↔ Ltr c := by
  rw [abc72, List.mem_map]
  unfold Ltr
  constructor
  · rintro ⟨k, hk, rfl⟩
    have := List.mem_range.mp hk
    omega
  · intro h
    exact ⟨c - 97, List.mem_range.mpr (by omega), by omega⟩
theorem isL_abc72 {c : Nat} : decide (c ∈ (Str.ofString "abcdefghijklmnopqrstuvwxyz").cps.toList) = isL72 c := by
  rw [Bool.eq_iff_iff, decide_eq_true_iff, ltr_abc72]
  unfold isL72 Ltr
  rw [decide_eq_true_iff]
theorem w_inL72 {c : Nat} {h : MH} {Q : D → MH → Prop} {E : XE} (q : Q (.bl (isL72 c)) h) : Sat (dIn (.str ⟨#[c]⟩) (.str (Str.ofString "abcdefghijklmnopqrstuvwxyz")) h) Q E := by
  have e : inD (.str ⟨#[c]⟩) (.str (Str.ofString "abcdefghijklmnopqrstuvwxyz")) h = some (decide (c ∈ (Str.ofString "abcdefghijklmnopqrstuvwxyz").cps.toList)) := rfl
  exact w_eq (by simp only [dIn, e, isL_abc72]) q
open Classical in
theorem k_isname72 {x : Str} (hx : x.length ≤ 100000) {h : MH} : Sat (m_is_name_e273d [.str x] h) (fun r h' => h' = h ∧ ∃ v, r = .bl v ∧ (v = true ↔ Nm x)) noX := by
  walk_at "fn"
  refine br_d (fun q => ?_) (fun q => ?_)
  · walk_at "go"
    exact ⟨rfl, false, rfl, fun e => (by cases e), fun z => by have := z.1; omega⟩
  walk_at "go"
  refine br_d (fun q2 => ?_) (fun q2 => ?_)
  · walk_at "go"
    exact ⟨rfl, false, rfl, fun e => (by cases e), fun z => by have := z.2.1; omega⟩
  walk_at "go"
  refine w_loop0 (fun k ρ h' => h' = h ∧ ∃ o1, ρ = [some (.str x), o1] ∧ ∀ c ∈ x.cps.toList.take k, Ltr c) ⟨rfl, none, rfl, fun c hc => by simp at hc⟩ (fun _ _ _ _ => rfl) ?_ ?_
  · rintro k d ρ h' hd ⟨rfl, o1, rfl, hk⟩
    rw [List.getElem?_map, Option.map_eq_some_iff] at hd
    obtain ⟨c, ec, rfl⟩ := hd
    refine ⟨_, rfl, ?_⟩
    dsimp only [List.set]
    walk_at "go"
    refine w_eq (dNotIn_sign _) ?_
    walk_at "go"
    refine br_d (fun q3 => ?_) (fun q3 => ?_)
    · walk_at "go"
      refine ⟨rfl, _, rfl, fun c' hc' => ?_⟩
      rw [List.take_succ, ec] at hc'
      rcases List.mem_append.mp hc' with z | z
      · exact hk c' z
      · have : c' = c := by simpa using z
        rw [this]
        exact ltr_abc72.mp q3
    · walk_at "go"
      exact ⟨rfl, false, rfl, fun e => (by cases e), fun z => (q3 (ltr_abc72.mpr (z.2.2 c (List.mem_of_getElem? ec)))).elim⟩
  · rintro ρ h' ⟨rfl, o1, rfl, hk⟩
    rw [List.length_map, List.take_length] at hk
    walk_at "go"
    exact ⟨rfl, true, rfl, fun _ => ⟨by omega, by omega, hk⟩, fun _ => rfl⟩
theorem sR_star72 : Str.ofString "*" = mS [42] := by decide +kernel
theorem sR_open72 : Str.ofString "(" = mS [40] := by decide +kernel
theorem sR_shut72 : Str.ofString ")" = mS [41] := by decide +kernel
theorem tw_mem72 {p : Nat → Bool} : ∀ {l : List Nat}, ∀ d ∈ l.takeWhile p, p d = true
  | [], d, hd => by cases hd
  | c :: l, d, hd => by
    rw [List.takeWhile_cons] at hd
    split at hd
    · rename_i h
      rcases List.mem_cons.mp hd with rfl | z
      · exact h
      · exact tw_mem72 d z
    · cases hd
theorem tw_at72 {l : List Nat} {j c : Nat} (h1 : ∀ d ∈ l.take j, isL72 d = true) (h2 : l[j]? = some c) (h3 : isL72 c = false) : (l.takeWhile isL72) = l.take j ∧ l.dropWhile isL72 = l.drop j := by
  induction l generalizing j with
  | nil => simp at h2
  | cons d l ih =>
    cases j with
    | zero =>
      simp at h2
      subst h2
      rw [List.takeWhile_cons, List.dropWhile_cons, if_neg (by rw [h3]; decide), if_neg (by rw [h3]; decide)]
      exact ⟨rfl, rfl⟩
    | succ j =>
      have hd := h1 d (by simp)
      obtain ⟨i1, i2⟩ := ih (j := j) (fun x hx => h1 x (by rw [List.take_succ_cons]; exact List.mem_cons_of_mem _ hx)) (by simpa using h2)
      rw [List.takeWhile_cons, List.dropWhile_cons, if_pos hd, if_pos hd, i1, i2]
      exact ⟨rfl, rfl⟩
theorem tw_all72 {l : List Nat} (h1 : ∀ d ∈ l, isL72 d = true) : l.takeWhile isL72 = l ∧ l.dropWhile isL72 = [] := by
  induction l with
  | nil => exact ⟨rfl, rfl⟩
  | cons d l ih =>
    have hd := h1 d List.mem_cons_self
    obtain ⟨i1, i2⟩ := ih fun x hx => h1 x (List.mem_cons_of_mem _ hx)
    rw [List.takeWhile_cons, List.dropWhile_cons, if_pos hd, if_pos hd, i1, i2]
    exact ⟨rfl, rfl⟩
/-- what follows a name and an open bracket -/
def nd72 (x : Str) : PR72 (List It × List Nat) → PR72 (It × List Nat)
  | .out => .out
  | .no => .no
  | .ok (its, q) => match q with
    | 41 :: q' => .ok (.nd x its, q')
    | _ => .no
theorem nd_ok72 {x : Str} {its : List It} {q : List Nat} : nd72 x (.ok (its, q)) = (match q with
    | 41 :: q' => .ok (.nd x its, q')
    | _ => .no) := rfl
theorem k_item72 {n m : Nat} {ir : Nat} {T : Str} (hT : T.length ≤ 90000)
    (ih : ∀ (h : MH) (r : List Nat), Rd72 ir T h r → pRow72 (pIt72 n) (r.length + 1) r ≠ .out → Sat (m_scc_ItemReader_item_79300 m 1 [.ref ir] h) (RowQ72 ir T h (pRow72 (pIt72 n) (r.length + 1) r)) noX) {h : MH} {r : List Nat} (x : Rd72 ir T h r) (hout : pIt72 (n + 1) r ≠ .out) :
    Sat (m_scc_ItemReader_item_79300 (m + 1) 0 [.ref ir] h) (ItQ72 ir T (n + 1) h r) noX := by
  have hTl : T.cps.toList.length ≤ 90000 := by rw [← str_len]; exact hT
  obtain ⟨a0, ea0, _⟩ := id x
  show Sat (m_ItemReader_item_b5416 (m_scc_ItemReader_item_79300 m) [.ref ir] h) _ _
  generalize m_scc_ItemReader_item_79300 m = SS at *
  walk_at "fn"
  rw [sR_star72]
  refine (k_meets72 hT x).mono ?_
  rintro y h1 ⟨k1, l1, hy⟩
  rcases hy with ⟨r', rfl, rfl, x1⟩ | ⟨hno, rfl, x1⟩
  · walk_at "go"
    exact ⟨k1, by omega, rfl, x1⟩
  obtain ⟨a1, ea1, ha1, hr1⟩ := id x1
  have hrlen : r.length = T.cps.toList.length - a1 := by rw [← hr1, List.length_drop]
  walk_at "go"
  refine OS.mono (N := fun ρ h' => ∃ j : Nat, ρ = [some (.ref ir), some (.int (a1 : Int)), none, none] ∧ h'[ir]? = some (.ins (Str.ofString "ItemReader") (rdF T (a1 + j))) ∧ j ≤ r.length ∧ Kr ir h h' ∧ h'.length = h.length ∧ r.takeWhile isL72 = r.take j ∧ r.dropWhile isL72 = r.drop j) ?_ ?_ (fun _ _ z => z) (fun _ _ z => z) (fun _ _ z => z) (fun _ _ _ _ z => z)
  · refine w_while (fun mm ρ h' => ∃ j : Nat, ρ = [some (.ref ir), some (.int (a1 : Int)), none, none] ∧ h'[ir]? = some (.ins (Str.ofString "ItemReader") (rdF T (a1 + j))) ∧ j ≤ r.length ∧ (∀ d ∈ r.take j, isL72 d = true) ∧ Kr ir h h' ∧ h'.length = h.length ∧ mm = r.length - j) r.length (by omega)
      ⟨0, rfl, ea1, Nat.zero_le _, (fun d hd => by simp at hd), k1, l1, by omega⟩ ?_
    rintro mm ρ h2 ⟨j, rfl, e2, hj, hlet, k2, l2, rfl⟩
    have ecast : ((a1 + j : Nat) : Int) + 1 = ((a1 + (j + 1) : Nat) : Int) := by omega
    have hTs := str_len T
    walk_at "go"
    refine br_d (fun q1 => ?_) (fun q1 => ?_)
    · have hjr : j < r.length := by omega
      have ec : T.cps.toList[a1 + j]? = some r[j] := by
        have := List.getElem?_drop (xs := T.cps.toList) (i := a1) (j := j)
        rw [← this, hr1]
        exact List.getElem?_eq_getElem hjr
      have erj := List.getElem?_eq_getElem hjr
      generalize r[j] = c at *
      walk_at "go"
      refine w_ixS (by omega) (atI_at ec) ?_
      walk_at "go"
      refine w_inL72 ?_
      walk_at "go"
      cases hc : isL72 c with
      | true =>
        walk_at "go"
        rw [ecast]
        refine w_setFldK e2 (by simp) (by simp) ?_
        rw [putAtR]
        refine ⟨r.length - (j + 1), by omega, j + 1, rfl, List.getElem?_set_self (List.getElem?_eq_some_iff.mp e2).1, by omega, fun d hd => ?_, k2.trans Kr.set, by rw [List.length_set]; exact l2, rfl⟩
        rw [List.take_succ, erj] at hd
        rcases List.mem_append.mp hd with z | z
        · exact hlet d z
        · have : d = c := by simpa using z
          rw [this]; exact hc
      | false =>
        walk_at "go"
        obtain ⟨t1, t2⟩ := tw_at72 hlet erj hc
        exact ⟨j, rfl, e2, hj, k2, l2, t1, t2⟩
    · walk_at "go"
      have hjr : j = r.length := by omega
      rw [hjr, List.take_length] at hlet
      obtain ⟨t1, t2⟩ := tw_all72 hlet
      exact ⟨j, rfl, e2, hj, k2, l2, by rw [t1, hjr, List.take_length], by rw [t2, hjr, List.drop_length]⟩
  rintro ρ h2 ⟨j, rfl, e2, hj, k2, l2, t1, t2⟩
  have hx2 : Rd72 ir T h2 (r.drop j) := ⟨a1 + j, e2, by omega, by rw [← hr1, List.drop_drop]⟩
  have hP : pIt72 (n + 1) r = (if 1 ≤ (r.take j).length ∧ (r.take j).length ≤ 8 then
        match r.drop j with
        | 40 :: r' => match pRow72 (pIt72 n) (r'.length + 1) r' with
          | .out => .out
          | .no => .no
          | .ok (its, q) => match q with
            | 41 :: q' => .ok (.nd (mS (r.take j)) its, q')
            | _ => .no
        | r' => .ok (.nd (mS (r.take j)) [], r')
      else .no) := by
    rw [pIt72, t1, t2]
    all_goals first | exact hno | rfl
  have hlet : ∀ d ∈ r.take j, isL72 d = true := fun d hd => by
    rw [← t1] at hd
    exact tw_mem72 d hd
  have hnm : Nm (mS (r.take j)) ↔ 1 ≤ (r.take j).length ∧ (r.take j).length ≤ 8 := by
    unfold Nm
    rw [mS_len]
    constructor
    · exact fun z => ⟨z.1, z.2.1⟩
    · refine fun z => ⟨z.1, z.2, fun c hc => ?_⟩
      have := hlet c hc
      unfold isL72 at this
      have this := decide_eq_true_iff.mp this
      unfold Ltr
      exact this
  have hcut : cutS T (some (a1 : Int)) (some ((a1 + j : Nat) : Int)) = mS (r.take j) := by
    rw [cutR_nat ha1 (by omega), hr1, Nat.add_sub_cancel_left]
  walk_at "go"
  rw [hcut]
  refine (k_isname72 (by rw [mS_len, List.length_take]; have := x.len; omega)).mono ?_
  rintro y h3 ⟨rfl, v, rfl, hv⟩
  cases v with
  | false =>
    have hno2 : ¬ (1 ≤ (r.take j).length ∧ (r.take j).length ≤ 8) := fun z => Bool.false_ne_true (hv.mpr (hnm.mpr z))
    walk_at "go"
    refine ⟨k2, by omega, ?_⟩
    rw [hP, if_neg hno2]
    exact ⟨rfl, _, hx2⟩
  | true =>
    have hyes := hnm.mp (hv.mp rfl)
    rw [if_pos hyes] at hP
    walk_at "go"
    rw [sR_open72]
    refine (k_meets72 hT hx2).mono ?_
    rintro y h4 ⟨k4, l4, hy⟩
    have k24 := k2.trans k4
    rcases hy with ⟨r', er, rfl, x4⟩ | ⟨hno4, rfl, x4⟩
    · have hP : pIt72 (n + 1) r = nd72 (mS (r.take j)) (pRow72 (pIt72 n) (r'.length + 1) r') := by
        rw [hP, er]
        generalize hw : pRow72 (pIt72 n) (r'.length + 1) r' = w
        cases w with
        | out => simp only [hw]; rfl
        | no => simp only [hw]; rfl
        | ok w => simp only [hw]; rfl
      obtain ⟨a4, ea4, _⟩ := id x4
      have hout4 : pRow72 (pIt72 n) (r'.length + 1) r' ≠ .out := fun e => by
        rw [e] at hP
        exact hout hP
      walk_at "go"
      refine (ih h4 r' x4 hout4).mono ?_
      rintro y h5 ⟨k5, l5, hy⟩
      have k25 := k24.trans k5
      cases hp : pRow72 (pIt72 n) (r'.length + 1) r' with
      | out => exact (hout4 hp).elim
      | no =>
        rw [hp] at hy hP
        obtain ⟨rfl, q, xq⟩ := hy
        walk_at "go"
        refine ⟨k25, by omega, ?_⟩
        rw [hP]
        exact ⟨rfl, q, xq⟩
      | ok w =>
        obtain ⟨its, q⟩ := w
        rw [hp] at hy hP
        rw [nd_ok72] at hP
        obtain ⟨rfl, xq⟩ := hy
        obtain ⟨a5, ea5, _⟩ := id xq
        walk_at "go"
        rw [sR_shut72]
        refine (k_meets72 hT xq).mono ?_
        rintro y h6 ⟨k6, l6, hy⟩
        rcases hy with ⟨q', rfl, rfl, x6⟩ | ⟨hno6, rfl, x6⟩
        · walk_at "go"
          refine ⟨k25.trans k6, by omega, ?_⟩
          rw [hP]
          exact ⟨by rw [it_nd], x6⟩
        · have hP6 : pIt72 (n + 1) r = .no := by
            rw [hP]
            cases q with
            | nil => rfl
            | cons c q =>
              have : c ≠ 41 := fun z => hno6 q (by rw [z])
              split
              · rename_i e; cases e; exact (this rfl).elim
              · rfl
          walk_at "go"
          refine ⟨k25.trans k6, by omega, ?_⟩
          rw [hP6]
          exact ⟨rfl, _, x6⟩
    · have hP4 : pIt72 (n + 1) r = .ok (.nd (mS (r.take j)) [], r.drop j) := by
        rw [hP]
        cases hq : r.drop j with
        | nil => rfl
        | cons c q =>
          have : c ≠ 40 := fun z => hno4 q (by rw [hq, z])
          split
          · rename_i e; cases e; exact (this rfl).elim
          · rfl
      walk_at "go"
      refine ⟨k24, by omega, ?_⟩
      rw [hP4]
      exact ⟨by rw [it_nd]; rfl, x4⟩
/-- both, for any room -/
theorem k_read72 {ir : Nat} {T : Str} (hT : T.length ≤ 90000) : ∀ n : Nat, (∀ (m : Nat) (h : MH) (r : List Nat), 2 * n ≤ m → Rd72 ir T h r → pIt72 n r ≠ .out → Sat (m_scc_ItemReader_item_79300 m 0 [.ref ir] h) (ItQ72 ir T n h r) noX) ∧
    (∀ (m : Nat) (h : MH) (r : List Nat), 2 * n + 1 ≤ m → Rd72 ir T h r → pRow72 (pIt72 n) (r.length + 1) r ≠ .out → Sat (m_scc_ItemReader_item_79300 m 1 [.ref ir] h) (RowQ72 ir T h (pRow72 (pIt72 n) (r.length + 1) r)) noX) := by
  intro n
  have row : ∀ n, (∀ (m : Nat) (h : MH) (r : List Nat), 2 * n ≤ m → Rd72 ir T h r → pIt72 n r ≠ .out → Sat (m_scc_ItemReader_item_79300 m 0 [.ref ir] h) (ItQ72 ir T n h r) noX) → (∀ (m : Nat) (h : MH) (r : List Nat), 2 * n + 1 ≤ m → Rd72 ir T h r → pRow72 (pIt72 n) (r.length + 1) r ≠ .out → Sat (m_scc_ItemReader_item_79300 m 1 [.ref ir] h) (RowQ72 ir T h (pRow72 (pIt72 n) (r.length + 1) r)) noX) :=
    fun n hi m h r hm x ho => k_row72 hT (by omega) (fun h r x ho => hi (m - 1) h r (by omega) x ho) x ho
  induction n with
  | zero => exact ⟨fun m h r _ _ ho => (ho rfl).elim, row 0 fun m h r _ _ ho => (ho rfl).elim⟩
  | succ n ih =>
    have hi : ∀ (m : Nat) (h : MH) (r : List Nat), 2 * (n + 1) ≤ m → Rd72 ir T h r → pIt72 (n + 1) r ≠ .out → Sat (m_scc_ItemReader_item_79300 m 0 [.ref ir] h) (ItQ72 ir T (n + 1) h r) noX := fun m h r hm x ho => by
      obtain ⟨m, rfl⟩ : ∃ k, m = k + 1 := ⟨m - 1, by omega⟩
      exact k_item72 hT (fun h r x ho => ih.2 m h r (by omega) x ho) x ho
    exact ⟨hi, row (n + 1) hi⟩
end
section
open PySem L2

def W4 (n : Nat) (x : Str) : Prop := Wd n x ∧ 42 ∉ x.cps.toList
theorem W4.app {a b : Nat} {x y : Str} (hx : W4 a x) (hy : W4 b y) : W4 (a + b) (x ++ y) := ⟨hx.1.app hy.1, fun h => by
  rw [app_cps] at h
  rcases List.mem_append.mp h with h | h
  · exact hx.2 h
  · exact hy.2 h⟩
theorem W4.cut {a : Nat} {x : Str} (hx : W4 a x) (lo hi : Option Int) : W4 a (cutS x lo hi) := ⟨hx.1.cut lo hi, fun h => hx.2 (List.mem_of_mem_drop (List.mem_of_mem_take h))⟩
theorem W4.le {a b : Nat} {x : Str} (hx : W4 a x) (h : a ≤ b) : W4 b x := ⟨hx.1.le h, hx.2⟩
theorem W4.join {ys : List Str} (h : ∀ y ∈ ys, W4 1 y) : W4 ys.length (Txt.join (Str.ofString "") ys) := ⟨Wd.join fun y hy => (h y hy).1, fun hc => by
  rw [join_cps] at hc
  obtain ⟨l, hl, hc⟩ := List.mem_flatten.mp hc
  obtain ⟨y, hy, rfl⟩ := List.mem_map.mp hl
  exact (h y hy).2 hc⟩
def W4s (n : Nat) (l : List D) : Prop := ∃ ns : List Str, l = ns.map .str ∧ ∀ x ∈ ns, W4 n x
theorem W4s.app {n : Nat} {l m : List D} (hl : W4s n l) (hm : W4s n m) : W4s n (l ++ m) := by
  obtain ⟨a, rfl, ha⟩ := hl
  obtain ⟨b, rfl, hb⟩ := hm
  refine ⟨a ++ b, by simp, fun x hx => ?_⟩
  rcases List.mem_append.mp hx with h | h
  · exact ha x h
  · exact hb x h
theorem W4s.one {n : Nat} {x : Str} (h : W4 n x) : W4s n [.str x] := ⟨[x], rfl, fun y hy => by rw [List.mem_singleton.mp hy]; exact h⟩
/-! items drawn -/
def NamOk (x : Str) : Prop := OkS x ∧ x ≠ star
def It.ok : Nat → It → Prop
  | _, .hole => True
  | 0, .nd _ _ => False
  | n + 1, .nd x l => NamOk x ∧ l.length ≤ 3 ∧ ∀ i ∈ l, i.ok n
theorem pool_at {ns : List Str} (hl : ns.length = 9) {z : Int} (h0 : 0 ≤ z) (h1 : z < 9) : ∃ x, x ∈ ns ∧ atI (ns.map D.str) z = some (.str x) := by
  obtain ⟨d, e1, e2⟩ := atI_in (l := ns.map D.str) h0 (by simp; omega)
  rw [List.getElem?_map, Option.map_eq_some_iff] at e2
  obtain ⟨x, e3, rfl⟩ := e2
  exact ⟨x, List.mem_of_getElem? e3, e1⟩
end
section
open PySem L2

theorem sq_le2 {k : Int} (h : 0 ≤ k ∧ k ≤ 200) : 0 ≤ k * k ∧ k * k ≤ 40000 := ⟨Int.mul_nonneg h.1 h.1, Int.le_trans (Int.mul_le_mul h.2 h.2 h.1 (by decide)) (by decide)⟩
theorem c_mix2 {c k : Int} (hc : Cell c) (hk : 0 ≤ k ∧ k ≤ 200) {h : MH} : Sat (m_mix_1b9e1 [.int c, .int k] h) (fun d h' => h' = h ∧ ∃ v, d = .int v ∧ 0 ≤ v ∧ v < 2147483648) noX := by
  have hq := sq_le2 hk
  walk_at "fn"
  refine w_mulB (a := 1048577) (b := 64) ?_ (bits_small (by decide) (by decide)) (by decide) ?_
  · rw [Int.add_assoc]
    exact bits_addS hc (by omega) (by omega)
  walk_at "go"
  have hb := mod_in ((c + 1 + k * k) * 48271) (n := 2147483629) (by decide)
  generalize (c + 1 + k * k) * 48271 % 2147483629 = b at hb
  walk_at "go"
  have h2 := mod_in (b * (b / 128 + 69621 * k + 16807)) (n := 2147483587) (by decide)
  exact ⟨rfl, _, rfl, h2.1, by omega⟩
theorem c_tape2 {c : Int} (hc : Cell c) {n : Nat} (hn : n ≤ 200) {h : MH} : Sat (m_tape_92891 [.int c, .int n] h) (fun d h' => ∃ i l, d = .ref i ∧ Own h h' [(i, l)] ∧ Tp l) noX := by
  walk_at "fn"
  refine o_new (Own.nil h) (by simp) fun i h1 o1 => ?_
  walk_at "go"
  refine w_loop0 (fun k ρ h' => ∃ l r o4, ρ = [some (.int c), some (.int n), some (.ref i), some (.int r), o4] ∧ Own h h' [(i, l)] ∧ Tp l ∧ l.length = k) ⟨[], c, none, rfl, o1, Tp.nil, rfl⟩ (fun _ _ _ _ => rfl) ?_ ?_
  · rintro k d ρ h' hd ⟨l, r, o4, rfl, o, tl, hl⟩
    obtain ⟨hk, rfl⟩ := rangeD_get hd
    refine ⟨_, rfl, ?_⟩
    rw [Int.toNat_natCast] at hk
    dsimp only [List.set]
    walk_at "go"
    refine w_pow (n := 18) (by decide) ?_
    walk_at "go"
    refine br_d (fun c => ?_) (fun c => ?_)
    · walk_at "go"
      refine o_app o 0 rfl (by omega) fun h2 o2 => ?_
      walk_at "go"
      exact ⟨_, _, _, rfl, o2, tl.app (by have := mod_in r (n := 1000003) (by decide); omega), by simp [hl]⟩
    · walk_at "go"
      refine (c_mix2 hc (by omega)).mono ?_
      rintro d h2 ⟨rfl, v, rfl, hv⟩
      walk_at "go"
      refine o_app o 0 rfl (by omega) fun h2 o2 => ?_
      exact ⟨_, _, _, rfl, o2, tl.app hv, by simp [hl]⟩
  · rintro ρ h' ⟨l, r, o4, rfl, o, tl, hl⟩
    walk_at "go"
    refine o_rev o (o.atL 0 rfl) fun j h2 o2 => ?_
    exact ⟨j, _, rfl, o2.head, tl.rev⟩
/-! turners drawn -/
def rD (p : Str × List It) : D := .tup [.str p.1, .tup (p.2.map It.toD)]
structure ROk (rl : TRl) (w : Nat) : Prop where
  len : rl.length ≤ 20
  nm : ∀ p ∈ rl, NamOk p.1
  its : ∀ p ∈ rl, p.2.length ≤ 100 ∧ ∀ it ∈ p.2, it.ok w
end
section
open PySem L2

/-! equal values -/
def PyM (n k : Nat) (h : MH) (d : D) : Prop := ∃ e, pyOf n h d = some e ∧ PyData.canLay0 e = true ∧ PyData.depth e ≤ k
theorem pyM_all {n k : Nat} {h : MH} : ∀ {l : List D}, (∀ x ∈ l, PyM n k h x) → ∃ es, allSome (l.map (pyOf n h)) = some es ∧ PyData.canLayAll0 es = true ∧ PyData.depthAll es ≤ k
  | [], _ => ⟨[], rfl, rfl, Nat.zero_le _⟩
  | x :: l, hx => by
    obtain ⟨e, e1, e2, e3⟩ := hx x List.mem_cons_self
    obtain ⟨es, f1, f2, f3⟩ := pyM_all (l := l) fun y hy => hx y (List.mem_cons_of_mem _ hy)
    refine ⟨e :: es, ?_, ?_, ?_⟩
    · rw [List.map_cons, e1, allSome, f1]; rfl
    · rw [PyData.canLayAll0, e2, f2]; rfl
    · rw [PyData.depthAll]; omega
theorem PyM.tup {n k : Nat} {h : MH} {l : List D} (hl : ∀ x ∈ l, PyM n k h x) : PyM (n + 1) (k + 1) h (.tup l) := by
  obtain ⟨es, f1, f2, f3⟩ := pyM_all hl
  exact ⟨.tuple es, by rw [pyOf, f1]; rfl, by rw [PyData.canLay0]; exact f2, by rw [PyData.depth]; omega⟩
theorem pyM_str {n k : Nat} {h : MH} {x : Str} (hx : OkS x) : PyM (n + 1) k h (.str x) := ⟨.str x, rfl, scal_str.lay x hx, Nat.zero_le _⟩
theorem star_ok : OkS star := by unfold OkS; decide +kernel
theorem PyM.mono {n k m : Nat} {h : MH} {d : D} (p : PyM n k h d) (q : k ≤ m) : PyM n m h d := by
  obtain ⟨e, e1, e2, e3⟩ := p
  exact ⟨e, e1, e2, by omega⟩
theorem shaped_of {e : PyData} (e2 : PyData.canLay0 e = true) (e3 : PyData.depth e ≤ 64) : SeqAt.shaped e = true := by unfold SeqAt.shaped; rw [e2, decide_eq_true e3]; rfl
theorem eq_tup_str {h : MH} {l : List D} {x : Str} (p : PyM 60 64 h (.tup l)) (hx : OkS x) : eqD (.tup l) (.str x) h = some false := by
  obtain ⟨e, e1, e2, e3⟩ := p
  have et : ∃ es, e = .tuple es := by
    simp only [pyOf, Option.map_eq_some_iff] at e1
    obtain ⟨es, _, rfl⟩ := e1
    exact ⟨es, rfl⟩
  obtain ⟨es, rfl⟩ := et
  unfold eqD
  rw [if_neg (by simp [scalD]), e1]
  have s1 := shaped_of e2 e3
  have s2 : SeqAt.shaped (.str x) = true := shaped_of (scal_str.lay x hx) (Nat.zero_le _)
  have p2 : pyOf 60 h (.str x) = some (.str x) := rfl
  simp only [p2, s1, s2, and_self, if_true]
  rfl
/-! what the rules tell -/
section
variable {rl : TRl} {h : MH}
end
theorem take_s7 {α : Type} {l : List α} {k : Nat} {x : α} (e : l[k]? = some x) : l.take (k + 1) = l.take k ++ [x] := by
  rw [List.take_succ, e]; rfl
end
section
open PySem L2
/-! the program's turning -/
section
variable {rl : TRl} (hr : ROk rl 4)
include hr
end
end
section
open PySem L2

abbrev okT (h : MH) : D → MH → Prop := fun r h' => h <+: h' ∧ r = .bl true
theorem same_str {t : Nat} {x : Str} {h : MH} : Sat (m_same_3d8da (t + 1) [.str x, .str x] h) (okT h) noX := by
  unfold m_same_3d8da
  walk_at "fn"
  refine w_eq (isi_tup_str _ _) ?_
  walk_at "go"
  exact ⟨List.prefix_rfl, by simp⟩
theorem same_int {t : Nat} {x : Int} {h : MH} : Sat (m_same_3d8da (t + 1) [.int x, .int x] h) (okT h) noX := by
  unfold m_same_3d8da
  walk_at "fn"
  refine w_eq (isi_tup_int _ _) ?_
  walk_at "go"
  exact ⟨List.prefix_rfl, by simp⟩
theorem same_all {t : Nat} {A : List D} {h : MH} (hl : A.length ≤ 5000) (ha : ∀ a ∈ A, ∀ h', Sat (m_same_3d8da t [a, a] h') (okT h') noX) : Sat (m_same_3d8da (t + 1) [.tup A, .tup A] h) (okT h) noX := by
  unfold m_same_3d8da
  walk_at "fn"
  refine w_zipT ?_
  walk_at "go"
  refine w_zipTK ?_
  dsimp only
  refine o_compS (σ := Unit) (fun _ => []) (fun k acc _ => acc = (List.replicate k true).map .bl) (s0 := ()) (Own.nil h) rfl (by rw [zipD_length]; omega) (fun _ _ _ _ _ => rfl) ?_ ?_
  · rintro i d acc _ c h' hd hai hI ow
    obtain ⟨x, y, ex, ey, rfl⟩ := zipD_get hd
    rw [ex] at ey
    cases ey
    refine ⟨_, rfl, ?_⟩
    dsimp only [wipeD, List.set]
    walk_at "go"
    refine (ha x (List.mem_of_getElem? ex) h').mono ?_
    rintro r h2 ⟨p2, rfl⟩
    refine ⟨(), ow.ext p2, ?_⟩
    rw [hI, List.replicate_succ', List.map_append]
    rfl
  · rintro acc _ c h' hai hI ow
    subst hI
    walk_at "go"
    refine w_all (ow.atL 0 rfl) ?_
    refine ⟨ow.pre, ?_⟩
    congr 1
    rw [List.all_eq_true]
    intro b hb
    rw [List.eq_of_mem_replicate hb]
    rfl
section
variable {rl : TRl} (hr : ROk rl 4)
include hr
end
end
section
open PySem L2

local macro_rules | `(tactic| walk_at "lk") => `(tactic| first | with_reducible exact lkA | (apply lkB; decide +kernel; walk_at "lk"))
local macro_rules | `(tactic| walk_at "mk") => `(tactic| first | with_reducible exact mkA | (apply mkB; decide +kernel; walk_at "mk"))
local macro_rules | `(tactic| walk_at "fk") => `(tactic| first | with_reducible exact fkA | exact fkN | (apply fkB; decide +kernel; walk_at "fk"))
local macro_rules | `(tactic| walk_at "cs") => `(tactic| first | exact List.mem_cons_self | (apply List.mem_cons_of_mem; walk_at "cs"))
local macro_rules | `(tactic| walk_at "w") => `(tactic| first
  | with_reducible refine w_fld ?_
  | ((with_reducible refine w_fldK (c := ?_) (fs := ?_) (v := ?_) ?_ ?_ ?_ ?_); rotate_left; rotate_left; rotate_left; (with_reducible assumption); (walk_at "cs"); (walk_at "fk"))
  | with_reducible refine w_setFld ?_
  | with_reducible refine w_new ?_
  | with_reducible refine w_methI ?_
  | ((with_reducible refine w_methK (c := ?_) (fs := ?_) (F := ?_) ?_ ?_ ?_ ?_); rotate_left; rotate_left; rotate_left; (with_reducible assumption); (walk_at "mk"); (walk_at "fk"))
  | with_reducible refine w_isC ?_
  | ((with_reducible refine w_isCK (c := ?_) (fs := ?_) (k := ?_) ?_ ?_ ?_); rotate_left; rotate_left; rotate_left; (with_reducible assumption); (walk_at "lk"))
  | with_reducible refine w_callD ?_
  | with_reducible refine w_mDSet ?_
  | with_reducible refine w_eq (nN_non _) ?_
  | with_reducible refine w_eq (nN_int _ _) ?_
  | with_reducible refine w_eq (nN_tup _ _) ?_
  | with_reducible refine w_eq (nN_ref _ _) ?_
  | with_reducible refine w_eq (iN_non _) ?_
  | with_reducible refine w_eq (iN_int _ _) ?_
  | with_reducible refine w_eq (iN_tup _ _) ?_
  | with_reducible refine w_eq (iN_ref _ _) ?_)
/-! items written, as the program and the law write them -/
theorem sR_st72 : Str.ofString "*" = mS [42] := by decide +kernel
theorem sR_b72 : Str.ofString " " = mS [32] := by decide +kernel
theorem nm_ok72 {x : Str} (h : Nm x) : OkS x := fun c hc => by
  have := h.2.2 c hc
  unfold Ltr at this
  omega
theorem dps_mem72 : ∀ {l : List It} {i : It}, i ∈ l → i.dp ≤ It.dps l
  | j :: l, i, h => by
    rw [It.dps]
    rcases List.mem_cons.mp h with rfl | h
    · omega
    · have := dps_mem72 h; omega
theorem it_py72 {h : MH} : ∀ (n k : Nat) (i : It), i.nms → 2 * i.dp + 1 ≤ n → 2 * i.dp ≤ k → PyM n k h i.toD
  | n + 1, k, .hole, _, _, _ => by
    rw [It.toD]
    exact pyM_str star_ok
  | n + 3, k + 2, .nd x l, hi, hn, hk => by
    rw [It.dp] at hn hk
    rw [it_nd]
    refine PyM.tup (n := n + 2) (k := k + 1) fun y hy => ?_
    simp only [List.mem_cons, List.not_mem_nil, or_false] at hy
    rcases hy with rfl | rfl
    · exact pyM_str (nm_ok72 hi.1)
    · refine PyM.tup (n := n + 1) (k := k) fun y hy => ?_
      obtain ⟨j, hj, rfl⟩ := List.mem_map.mp hy
      have := dps_mem72 hj
      exact it_py72 (n + 1) k j (nmss_iff72.mp hi.2 j hj) (by omega) (by omega)
  | 0, _, _, _, h, _ => by omega
  | 1, _, .nd _ _, _, h, _ => by rw [It.dp] at h; omega
  | 2, _, .nd _ _, _, h, _ => by rw [It.dp] at h; omega
  | n + 3, 0, .nd _ _, _, _, h => by rw [It.dp] at h; omega
  | n + 3, 1, .nd _ _, _, _, h => by rw [It.dp] at h; omega
theorem w_isNH72 {i : It} (hi : i.nms) (hd : i.dp ≤ 12) {h : MH} {Q : D → MH → Prop} {E : XE} (q : Q (.bl (match i with | .hole => false | .nd _ _ => true)) h) : Sat (dNe i.toD (.str (Str.ofString "*")) h) Q E := by
  cases i with
  | hole => exact w_eq (dNe_str _ _ _) (by simpa using q)
  | nd x l =>
    have p := it_py72 (h := h) 60 64 (.nd x l) hi (by omega) (by omega)
    rw [it_nd] at p ⊢
    exact w_neK (eq_tup_str p star_ok) q
theorem shT_len72 : ∀ l : List It, (shT72 l).length = (l.map fun i => (shI72 i).length).sum + l.length
  | [] => by rw [shT72]; rfl
  | i :: l => by
    rw [shT72, List.length_cons, List.length_append, shT_len72 l, List.map_cons, List.sum_cons, List.length_cons]
    omega
theorem shL_sum72 (l : List It) : (l.map fun i => (shI72 i).length).sum + l.length ≤ (shL72 l).length + 1 := by
  cases l with
  | nil => simp
  | cons i l =>
    rw [shL72, List.length_append, shT_len72, List.map_cons, List.sum_cons, List.length_cons]
    omega
theorem mem_le72 {l : List Nat} {x : Nat} (h : x ∈ l) : x ≤ l.sum := by
  induction l with
  | nil => cases h
  | cons y l ih =>
    rw [List.sum_cons]
    rcases List.mem_cons.mp h with rfl | h
    · omega
    · have := ih h; omega
theorem shL_mem72 {l : List It} {i : It} (h : i ∈ l) : (shI72 i).length + l.length ≤ (shL72 l).length + 1 := by
  have h1 := shL_sum72 l
  have : (shI72 i).length ≤ (l.map fun i => (shI72 i).length).sum := mem_le72 (List.mem_map.mpr ⟨i, h, rfl⟩)
  omega
theorem shB_ne72 {l : List It} (h : l ≠ []) : shB72 l = 40 :: (shL72 l ++ [41]) := by
  cases l with
  | nil => exact (h rfl).elim
  | cons i l => rw [shB72, shL72, List.append_assoc]
theorem join_sh72 (l : List It) : Txt.join (mS [32]) (l.map fun i => mS (shI72 i)) = mS (shL72 l) := by
  have e : Txt.join (mS [32]) (l.map fun i => mS (shI72 i)) = Str.join (mS [32]) (l.map fun i => mS (shI72 i)) := StrLaws.glued_eq_join _ _
  rw [e]
  clear e
  induction l with
  | nil => rw [shL72]; rfl
  | cons d l ih =>
    cases l with
    | nil => rw [shL72, shT72, List.append_nil]; rfl
    | cons k l =>
      rw [List.map_cons] at ih
      rw [shL72, shT72, List.map_cons, List.map_cons, Str.join, ih, mS_app, mS_app, shL72]
      · simp
      · intro z; cases z
def Sh72 (t : Nat) (f : Nat → List D → MH → R D) : Prop := ∀ (its : List It) (h : MH), It.dps its < t → It.dps its ≤ 12 → It.nmss its → (shL72 its).length ≤ 500000 → Sat (f t [.tup (its.map It.toD)] h) (fun d h' => h <+: h' ∧ d = .str (mS (shL72 its))) noX
theorem eT72 {x : Str} {l : List It} (hne : l ≠ []) : mS (shI72 (.nd x l)) = x ++ Str.ofString "(" ++ mS (shL72 l) ++ Str.ofString ")" := by
  rw [sR_open72, sR_shut72, shI72, shB_ne72 hne, ← mS_of x, mS_app, mS_app, mS_app, mS_cps]
  simp
theorem k_shown72 : ∀ t : Nat, Sh72 t m_shown_9126a
  | 0, its, h, h1, _, _, _ => by omega
  | t + 1, its, h, h1, hd, hn, hs => by
    have hlen := shL_sum72 its
    unfold m_shown_9126a
    walk_at "fn"
    refine o_new (Own.nil h) (by simp) fun iL h1 o1 => ?_
    walk_at "go"
    refine w_loop0 (fun k ρ h' => ∃ o2 o3, ρ = [some (.tup (its.map It.toD)), some (.ref iL), o2, o3] ∧ Own h h' [(iL, (its.take k).map fun i => .str (mS (shI72 i)))]) ⟨none, none, rfl, o1⟩ (fun _ _ _ _ => rfl) ?_ ?_
    · rintro k d ρ h2 hkd ⟨o2, o3, rfl, ow⟩
      rw [List.getElem?_map, Option.map_eq_some_iff] at hkd
      obtain ⟨i, ei, rfl⟩ := hkd
      have hmem := List.mem_of_getElem? ei
      have him := nmss_iff72.mp hn i hmem
      have hidp := dps_mem72 hmem
      have hil := shL_mem72 hmem
      have hk : k < its.length := (List.getElem?_eq_some_iff.mp ei).1
      have fin : ∀ {h'}, Own h h' (List.set [(iL, (its.take k).map fun i => D.str (mS (shI72 i)))] 0 (iL, ((its.take k).map fun i => D.str (mS (shI72 i))) ++ [.str (mS (shI72 i))])) → Own h h' [(iL, (its.take (k + 1)).map fun i => .str (mS (shI72 i)))] := fun o => by
        rw [take_s7 ei, List.map_append]; exact o
      refine ⟨_, rfl, ?_⟩
      dsimp only [List.set]
      walk_at "go"
      refine w_isNH72 him (by omega) ?_
      cases i with
      | hole =>
        rw [It.toD]
        walk_at "go"
        refine o_app ow 0 rfl (by simp; omega) fun h3 o3 => ?_
        exact ⟨_, _, rfl, fin o3⟩
      | nd x l =>
        rw [shI72, List.length_append] at hil
        rw [it_nd]
        cases l with
        | nil =>
          walk_at "go"
          refine br_d (fun q => (by simp at q : False).elim) (fun q => ?_)
          walk_at "go"
          refine o_app ow 0 rfl (by simp; omega) fun h3 o3 => ?_
          exact ⟨_, _, rfl, fin (by rw [shI72, shB72, List.append_nil, mS_of]; exact o3)⟩
        | cons j l =>
          rw [shB_ne72 (by simp), List.length_cons, List.length_append] at hil
          rw [It.dp] at hidp
          have ih := k_shown72 t (j :: l) h2 (by omega) (by omega) him.2 (by omega)
          generalize hl : j :: l = l' at *
          have hne : l' ≠ [] := by rw [← hl]; simp
          have hpos : 1 ≤ l'.length := by rw [← hl]; simp
          have hx8 := him.1.2.1
          walk_at "go"
          refine w_addS (by rw [sR_open72, mS_len]; simp; omega) ?_
          walk_at "go"
          refine ih.mono ?_
          rintro y h3 ⟨p3, rfl⟩
          have ow3 := ow.ext p3
          walk_at "go"
          refine w_addS (by rw [sR_open72]; simp [Str.length_append, mS_len]; omega) ?_
          walk_at "go"
          refine w_addS (by rw [sR_open72, sR_shut72]; simp [Str.length_append, mS_len]; omega) ?_
          walk_at "go"
          refine o_app ow3 0 rfl (by simp; omega) fun h4 o4 => ?_
          refine ⟨_, _, rfl, fin ?_⟩
          rw [eT72 hne]
          exact o4
    · rintro ρ h2 ⟨o2, o3, rfl, ow⟩
      rw [List.length_map, List.take_length] at ow
      have em : (its.map fun i => D.str (mS (shI72 i))) = (its.map fun i => mS (shI72 i)).map .str := by rw [List.map_map]; rfl
      rw [em] at ow
      walk_at "go"
      refine ⟨rfl, ?_⟩
      walk_at "go"
      refine w_join (x := Str.ofString " ") (ow.atL 0 rfl) (by rw [sR_b72, mS_len, List.map_map, List.length_map]; simp only [Function.comp_def, mS_len]; simp; omega) ?_
      rw [sR_b72, join_sh72]
      exact ⟨ow.pre, rfl⟩
/-! a rule and a turner written -/
def shR72 (p : Str × List It) : List Nat := p.1.cps.toList ++ (32 :: 45 :: 62 :: (if p.2 = [] then [] else 32 :: shL72 p.2))
structure RW72 (p : Str × List It) : Prop where
  nm : Nm p.1
  nms : It.nmss p.2
  dp : It.dps p.2 ≤ 12
  len : (shL72 p.2).length ≤ 500000
theorem sR_ar72 : Str.ofString " ->" = mS [32, 45, 62] := by decide +kernel
theorem sR_arb72 : Str.ofString " -> " = mS [32, 45, 62, 32] := by decide +kernel
theorem k_ruleshown72 {p : Str × List It} (P : RW72 p) {h : MH} : Sat (m_rule_shown_18506 [rD p] h) (fun d h' => h <+: h' ∧ d = .str (mS (shR72 p))) noX := by
  obtain ⟨x, l⟩ := p
  obtain ⟨p1, p2, p3, p4⟩ := P
  dsimp only at p1 p2 p3 p4
  have hx8 := p1.2.1
  rw [rD]
  dsimp only
  cases l with
  | nil =>
    walk_at "fn"
    refine w_addS (by rw [sR_ar72, mS_len]; simp; omega) ?_
    walk_at "go"
    refine ⟨List.prefix_rfl, ?_⟩
    rw [sR_ar72, shR72, if_pos rfl, ← mS_of x, mS_app, mS_cps]
  | cons j l =>
    have ih := fun h => k_shown72 100 (j :: l) h (by omega) (by omega) p2 (by omega)
    generalize hl : j :: l = l' at *
    have hne : l' ≠ [] := by rw [← hl]; simp
    have hpos : 1 ≤ l'.length := by rw [← hl]; simp
    walk_at "fn"
    refine w_addS (by rw [sR_arb72, mS_len]; simp; omega) ?_
    walk_at "go"
    refine (ih h).mono ?_
    rintro y h3 ⟨p3, rfl⟩
    walk_at "go"
    refine w_addS (by rw [sR_arb72]; simp [Str.length_append, mS_len]; omega) ?_
    walk_at "go"
    refine ⟨p3, ?_⟩
    rw [sR_arb72, shR72, if_neg hne, ← mS_of x, mS_app, mS_app, mS_cps]
    simp
def wR72 (p : Str × List It) : Str := mS (shR72 p)
end
section
open PySem L2

local macro_rules | `(tactic| walk_at "lk") => `(tactic| first | with_reducible exact lkA | (apply lkB; decide +kernel; walk_at "lk"))
local macro_rules | `(tactic| walk_at "mk") => `(tactic| first | with_reducible exact mkA | (apply mkB; decide +kernel; walk_at "mk"))
local macro_rules | `(tactic| walk_at "fk") => `(tactic| first | with_reducible exact fkA | exact fkN | (apply fkB; decide +kernel; walk_at "fk"))
local macro_rules | `(tactic| walk_at "cs") => `(tactic| first | exact List.mem_cons_self | (apply List.mem_cons_of_mem; walk_at "cs"))
local macro_rules | `(tactic| walk_at "w") => `(tactic| first
  | with_reducible refine w_fld ?_
  | ((with_reducible refine w_fldK (c := ?_) (fs := ?_) (v := ?_) ?_ ?_ ?_ ?_); rotate_left; rotate_left; rotate_left; (with_reducible assumption); (walk_at "cs"); (walk_at "fk"))
  | with_reducible refine w_setFld ?_
  | with_reducible refine w_new ?_
  | with_reducible refine w_methI ?_
  | ((with_reducible refine w_methK (c := ?_) (fs := ?_) (F := ?_) ?_ ?_ ?_ ?_); rotate_left; rotate_left; rotate_left; (with_reducible assumption); (walk_at "mk"); (walk_at "fk"))
  | with_reducible refine w_isC ?_
  | ((with_reducible refine w_isCK (c := ?_) (fs := ?_) (k := ?_) ?_ ?_ ?_); rotate_left; rotate_left; rotate_left; (with_reducible assumption); (walk_at "lk"))
  | with_reducible refine w_callD ?_
  | with_reducible refine w_mDSet ?_
  | with_reducible refine w_eq (nN_non _) ?_
  | with_reducible refine w_eq (nN_int _ _) ?_
  | with_reducible refine w_eq (nN_tup _ _) ?_
  | with_reducible refine w_eq (nN_ref _ _) ?_
  | with_reducible refine w_eq (iN_non _) ?_
  | with_reducible refine w_eq (iN_int _ _) ?_
  | with_reducible refine w_eq (iN_tup _ _) ?_
  | with_reducible refine w_eq (iN_ref _ _) ?_)
theorem kr_pre72 {h h1 h2 : MH} (p1 : h <+: h1) (k : Kr h.length h1 h2) : h <+: h2 := by
  rw [List.prefix_iff_getElem?]
  intro j hj
  exact k j _ (by omega) (pre_get p1 (List.getElem?_eq_getElem hj))
/-! a rule read -/
theorem part_72 {a b p q : List Nat} (hb : b ≠ []) (h : TL.par b [] a = some (p, q)) : Txt.partition (mS a) (mS b) = (mS p, mS b, mS q) := SX.partition_some hb h
end
section
open PySem L2
/-! what signs are written -/
def Ch72 (c : Nat) : Prop := (97 ≤ c ∧ c ≤ 122) ∨ c = 32 ∨ c = 40 ∨ c = 41 ∨ c = 42 ∨ c = 45 ∨ c = 62
theorem ch_nm72 {x : Str} (h : Nm x) : ∀ c ∈ x.cps.toList, Ch72 c := fun c z => by
  have := h.2.2 c z
  unfold Ltr at this
  exact .inl this
mutual
theorem ch_I72 : ∀ i : It, i.nms → ∀ c ∈ shI72 i, Ch72 c
  | .hole, _, c, hc => by
    rw [shI72] at hc
    have := List.mem_singleton.mp hc
    unfold Ch72
    omega
  | .nd x l, h, c, hc => by
    rw [shI72] at hc
    rcases List.mem_append.mp hc with z | z
    · exact ch_nm72 h.1 c z
    · exact ch_B72 l h.2 c z
theorem ch_B72 : ∀ l : List It, It.nmss l → ∀ c ∈ shB72 l, Ch72 c
  | [], _, c, hc => by rw [shB72] at hc; cases hc
  | i :: l, h, c, hc => by
    rw [shB72] at hc
    rcases List.mem_cons.mp hc with rfl | z
    · unfold Ch72; omega
    rcases List.mem_append.mp z with z | z
    · exact ch_I72 i h.1 c z
    rcases List.mem_append.mp z with z | z
    · exact ch_T72 l h.2 c z
    · have := List.mem_singleton.mp z
      unfold Ch72
      omega
theorem ch_T72 : ∀ l : List It, It.nmss l → ∀ c ∈ shT72 l, Ch72 c
  | [], _, c, hc => by rw [shT72] at hc; cases hc
  | i :: l, h, c, hc => by
    rw [shT72] at hc
    rcases List.mem_cons.mp hc with rfl | z
    · unfold Ch72; omega
    rcases List.mem_append.mp z with z | z
    · exact ch_I72 i h.1 c z
    · exact ch_T72 l h.2 c z
end
theorem ch_L72 {l : List It} (h : It.nmss l) : ∀ c ∈ shL72 l, Ch72 c := fun c hc => by
  cases l with
  | nil => rw [shL72] at hc; cases hc
  | cons i l =>
    rw [shL72] at hc
    rcases List.mem_append.mp hc with z | z
    · exact ch_I72 i h.1 c z
    · exact ch_T72 l h.2 c z
theorem ch_R72 {p : Str × List It} (P : RW72 p) : ∀ c ∈ shR72 p, Ch72 c := fun c hc => by
  unfold shR72 at hc
  rcases List.mem_append.mp hc with z | z
  · exact ch_nm72 P.nm c z
  simp only [List.mem_cons] at z
  rcases z with rfl | rfl | rfl | z
  · unfold Ch72; omega
  · unfold Ch72; omega
  · unfold Ch72; omega
  · split at z
    · cases z
    · rcases List.mem_cons.mp z with rfl | z
      · unfold Ch72; omega
      · exact ch_L72 P.nms c z
/-! what is written ends with no blank -/
def En72 (l : List Nat) : Prop := ∃ m c, l = m ++ [c] ∧ c ≠ 32
theorem En72.pre {a l : List Nat} (h : En72 l) : En72 (a ++ l) := by
  obtain ⟨m, c, rfl, hc⟩ := h
  exact ⟨a ++ m, c, by rw [List.append_assoc], hc⟩
theorem drop_all72 : ∀ l : List Nat, (∀ c ∈ l.dropWhile (· == 32), c = 32) → ∀ c ∈ l, c = 32
  | [], _, c, hc => by cases hc
  | d :: l, h, c, hc => by
    rw [List.dropWhile_cons] at h
    by_cases z : d = 32
    · subst z
      rw [if_pos (by rfl)] at h
      rcases List.mem_cons.mp hc with rfl | hc
      · rfl
      · exact drop_all72 l h c hc
    · rw [if_neg (by simpa using z)] at h
      exact (z (h d List.mem_cons_self)).elim
theorem dw_nil72 : ∀ l : List Nat, l.dropWhile (· == 32) = [] → ∀ c ∈ l, c = 32
  | [], _, c, hc => by cases hc
  | d :: l, h, c, hc => by
    rw [List.dropWhile_cons] at h
    by_cases z : d = 32
    · subst z
      rw [if_pos (by rfl)] at h
      rcases List.mem_cons.mp hc with rfl | hc
      · rfl
      · exact dw_nil72 l h c hc
    · rw [if_neg (by simpa using z)] at h
      cases h
theorem strp_nil72 {l : List Nat} (h : strp72 l = []) : ∀ c ∈ l, c = 32 := by
  unfold strp72 at h
  have h2 : (l.dropWhile (· == 32)).reverse.dropWhile (· == 32) = [] := List.reverse_eq_nil_iff.mp h
  refine drop_all72 l fun c hc => ?_
  exact dw_nil72 _ h2 c (List.mem_reverse.mpr hc)
/-! rows joined -/
theorem jn_cons72 (s : List Nat) (a b : List Nat) (l : List (List Nat)) : TL.joinL s (a :: b :: l) = a ++ (s ++ TL.joinL s (b :: l)) := rfl
theorem jn_part72 {s : List Nat} : ∀ (l : List (List Nat)) (a : List Nat), a ∈ l → a.length ≤ (TL.joinL s l).length
  | [b], a, h => by rw [List.mem_singleton.mp h]; exact Nat.le_refl _
  | b :: d :: l, a, h => by
    rw [jn_cons72, List.length_append, List.length_append]
    rcases List.mem_cons.mp h with rfl | h
    · omega
    · have := jn_part72 (s := s) (d :: l) a h; omega
end
section
open PySem L2
/-! the law's own reading of items, as a machine with a stack -/
def mc73 : Nat → List (Str × List It) → List It → Bool → List Nat → Option (List It)
  | 0, _, _, _, _ => none
  | _ + 1, stk, cur, due, [] => if due = true ∨ stk ≠ [] then none else some cur
  | n + 1, stk, cur, true, c :: r =>
    if isL72 c = true then
      if ((c :: r).takeWhile isL72).length ≤ 8 then
        if ((c :: r).dropWhile isL72).head? = some 40 then mc73 n ((mS ((c :: r).takeWhile isL72), cur) :: stk) [] true ((c :: r).dropWhile isL72).tail
        else mc73 n stk (cur ++ [.nd (mS ((c :: r).takeWhile isL72)) []]) false ((c :: r).dropWhile isL72)
      else none
    else if c = 42 then mc73 n stk (cur ++ [.hole]) false r
    else none
  | n + 1, stk, cur, false, c :: r =>
    if c = 41 then
      match stk with
      | (x, up) :: stk' => mc73 n stk' (up ++ [.nd x cur]) false r
      | [] => none
    else if c = 32 then mc73 n stk cur true r
    else none
theorem dw_len73 (p : Nat → Bool) : ∀ l : List Nat, (l.dropWhile p).length ≤ l.length
  | [] => Nat.le_refl _
  | c :: l => by
    rw [List.dropWhile_cons]
    split
    · rw [List.length_cons]; have := dw_len73 p l; omega
    · exact Nat.le_refl _
theorem tdw73 (p : Nat → Bool) : ∀ l : List Nat, (l.takeWhile p).length + (l.dropWhile p).length = l.length
  | [] => rfl
  | c :: l => by
    rw [List.takeWhile_cons, List.dropWhile_cons]
    split
    · have := tdw73 p l
      simp only [List.length_cons]
      omega
    · simp
theorem pIt_star73 {n : Nat} {r : List Nat} : pIt72 (n + 1) (42 :: r) = .ok (.hole, r) := rfl
theorem pIt_open73 {n : Nat} {l r' : List Nat} (h : ∀ r, l ≠ 42 :: r) (hw : 1 ≤ (l.takeWhile isL72).length ∧ (l.takeWhile isL72).length ≤ 8) (er : l.dropWhile isL72 = 40 :: r') : pIt72 (n + 1) l = nd72 (mS (l.takeWhile isL72)) (pRow72 (pIt72 n) (r'.length + 1) r') := by
  rw [pIt72]
  · rw [if_pos hw, er]
    generalize hw : pRow72 (pIt72 n) (r'.length + 1) r' = w
    cases w with
    | out => simp only [hw]; rfl
    | no => simp only [hw]; rfl
    | ok w => simp only [hw]; rfl
  · exact h
theorem pIt_leaf73 {n : Nat} {l : List Nat} (h : ∀ r, l ≠ 42 :: r) (hw : 1 ≤ (l.takeWhile isL72).length ∧ (l.takeWhile isL72).length ≤ 8) (er : ∀ r', l.dropWhile isL72 ≠ 40 :: r') : pIt72 (n + 1) l = .ok (.nd (mS (l.takeWhile isL72)) [], l.dropWhile isL72) := by
  rw [pIt72]
  · rw [if_pos hw]
    split
    · rename_i e; exact (er _ e).elim
    · rfl
  · exact h
theorem pIt_no73 {n : Nat} {l : List Nat} (h : ∀ r, l ≠ 42 :: r) (hw : ¬ (1 ≤ (l.takeWhile isL72).length ∧ (l.takeWhile isL72).length ≤ 8)) : pIt72 (n + 1) l = .no := by
  rw [pIt72]
  · rw [if_neg hw]
  · exact h
theorem nd_shut73 {x : Str} {its : List It} {q : List Nat} : nd72 x (.ok (its, 41 :: q)) = .ok (.nd x its, q) := rfl
theorem nd_no73 {x : Str} {its : List It} {q : List Nat} (h : ∀ r, q ≠ 41 :: r) : nd72 x (.ok (its, q)) = .no := by
  rw [nd_ok72]
  split
  · rename_i r; exact (h r rfl).elim
  · rfl
/-- progress of the reader -/
theorem pIt_len73 : ∀ (n : Nat), (∀ l i q, pIt72 n l = .ok (i, q) → (q.length < l.length ∧ q <:+ l)) ∧ (∀ k l its q, pRow72 (pIt72 n) k l = .ok (its, q) → (q.length < l.length ∧ q <:+ l)) := by
  intro n
  have row : ∀ f : List Nat → PR72 (It × List Nat), (∀ l i q, f l = .ok (i, q) → (q.length < l.length ∧ q <:+ l)) → ∀ k l its q, pRow72 f k l = .ok (its, q) → (q.length < l.length ∧ q <:+ l) := by
    intro f hf k
    induction k with
    | zero => intro l its q e; rw [pRow72] at e; cases e
    | succ k ih =>
      intro l its q e
      cases hi : f l with
      | out => rw [pRow72, hi] at e; cases e
      | no => rw [pRow72, hi] at e; cases e
      | ok w =>
        obtain ⟨i, r⟩ := w
        have h1 := hf l i r hi
        by_cases hb : ∃ r', r = 32 :: r'
        · obtain ⟨r', rfl⟩ := hb
          rw [pRow_blank72 hi] at e
          cases hr : pRow72 f k r' with
          | out => rw [hr] at e; cases e
          | no => rw [hr] at e; cases e
          | ok w =>
            obtain ⟨its', q'⟩ := w
            rw [hr] at e
            cases e
            have := ih r' its' q hr
            rw [List.length_cons] at h1
            exact ⟨by omega, (this.2.trans (List.suffix_cons _ _)).trans h1.2⟩
        · rw [pRow_end72 hi fun r' z => hb ⟨r', z⟩] at e
          cases e
          exact h1
  induction n with
  | zero =>
    have h0 : ∀ l i q, pIt72 0 l = .ok (i, q) → (q.length < l.length ∧ q <:+ l) := fun l i q e => by
      have : pIt72 0 l = .out := by rw [pIt72]
      rw [this] at e
      cases e
    exact ⟨h0, row _ h0⟩
  | succ n ih =>
    have hi : ∀ l i q, pIt72 (n + 1) l = .ok (i, q) → (q.length < l.length ∧ q <:+ l) := by
      intro l i q e
      by_cases h42 : ∃ r, l = 42 :: r
      · obtain ⟨r, rfl⟩ := h42
        rw [pIt_star73] at e
        cases e
        exact ⟨by simp, List.suffix_cons _ _⟩
      · have h42 : ∀ r, l ≠ 42 :: r := fun r z => h42 ⟨r, z⟩
        have hd := tdw73 isL72 l
        by_cases hw : 1 ≤ (l.takeWhile isL72).length ∧ (l.takeWhile isL72).length ≤ 8
        · by_cases er : ∃ r', l.dropWhile isL72 = 40 :: r'
          · obtain ⟨r', er⟩ := er
            rw [pIt_open73 h42 hw er] at e
            cases hr : pRow72 (pIt72 n) (r'.length + 1) r' with
            | out => rw [hr] at e; cases e
            | no => rw [hr] at e; cases e
            | ok w =>
              obtain ⟨its', q'⟩ := w
              rw [hr] at e
              have := ih.2 _ _ _ _ hr
              rw [er] at hd
              by_cases hq : ∃ q'', q' = 41 :: q''
              · obtain ⟨q'', rfl⟩ := hq
                rw [nd_shut73] at e
                cases e
                simp only [List.length_cons] at hd this
                have hs : (40 :: r') <:+ l := er ▸ List.dropWhile_suffix _
                exact ⟨by omega, (((List.suffix_cons _ _).trans this.2).trans (List.suffix_cons _ _)).trans hs⟩
              · rw [nd_no73 fun r z => hq ⟨r, z⟩] at e
                cases e
          · rw [pIt_leaf73 h42 hw fun r z => er ⟨r, z⟩] at e
            cases e
            exact ⟨by omega, List.dropWhile_suffix _⟩
        · rw [pIt_no73 h42 hw] at e
          cases e
    exact ⟨hi, row _ hi⟩
/-- behind items there is no blank left -/
theorem pRow_nb73 {f : List Nat → PR72 (It × List Nat)} : ∀ k l its q, pRow72 f k l = .ok (its, q) → ∀ r, q ≠ 32 :: r
  | 0, l, its, q, e => by rw [pRow72] at e; cases e
  | k + 1, l, its, q, e => by
    cases hi : f l with
    | out => rw [pRow72, hi] at e; cases e
    | no => rw [pRow72, hi] at e; cases e
    | ok w =>
      obtain ⟨i, r⟩ := w
      by_cases hb : ∃ r', r = 32 :: r'
      · obtain ⟨r', rfl⟩ := hb
        rw [pRow_blank72 hi] at e
        cases hr : pRow72 f k r' with
        | out => rw [hr] at e; cases e
        | no => rw [hr] at e; cases e
        | ok w =>
          obtain ⟨its', q'⟩ := w
          rw [hr] at e
          cases e
          exact pRow_nb73 k r' its' q hr
      · rw [pRow_end72 hi fun r' z => hb ⟨r', z⟩] at e
        cases e
        exact fun r' z => hb ⟨r', z⟩
/-- a fuel that is not used up -/
theorem pIt_out73 : ∀ (n : Nat), (∀ l, l.count 40 < n → pIt72 n l ≠ .out) ∧ (∀ k l, l.count 40 < n → l.length < k → pRow72 (pIt72 n) k l ≠ .out) := by
  intro n
  have row : (∀ l, l.count 40 < n → pIt72 n l ≠ .out) → ∀ k l, l.count 40 < n → l.length < k → pRow72 (pIt72 n) k l ≠ .out := by
    intro hi k
    induction k with
    | zero => intro l _ h; omega
    | succ k ih =>
      intro l hc hk
      cases hf : pIt72 n l with
      | out => exact (hi l hc hf).elim
      | no => rw [pRow72, hf]; intro e; cases e
      | ok w =>
        obtain ⟨i, q⟩ := w
        have h1 := (pIt_len73 n).1 l i q hf
        by_cases hb : ∃ r', q = 32 :: r'
        · obtain ⟨r', rfl⟩ := hb
          rw [pRow_blank72 hf]
          have hs : r' <:+ l := (List.suffix_cons _ _).trans h1.2
          have hcs := hs.sublist.count_le 40
          rw [List.length_cons] at h1
          have := ih r' (by omega) (by omega)
          cases hr : pRow72 (pIt72 n) k r' with
          | out => exact (this hr).elim
          | no => intro e; cases e
          | ok w => intro e; cases e
        · rw [pRow_end72 hf fun r z => hb ⟨r, z⟩]
          intro e; cases e
  induction n with
  | zero => exact ⟨fun l h => by omega, row fun l h => by omega⟩
  | succ n ih =>
    have ihr : ∀ k l, l.count 40 < n → l.length < k → pRow72 (pIt72 n) k l ≠ .out := (ih fun hi => by
      intro k
      induction k with
      | zero => intro l _ h; omega
      | succ k ihk =>
        intro l hc hk
        cases hf : pIt72 n l with
        | out => exact (hi l hc hf).elim
        | no => rw [pRow72, hf]; intro e; cases e
        | ok w =>
          obtain ⟨i, q⟩ := w
          have h1 := (pIt_len73 n).1 l i q hf
          by_cases hb : ∃ r', q = 32 :: r'
          · obtain ⟨r', rfl⟩ := hb
            rw [pRow_blank72 hf]
            have hs : r' <:+ l := (List.suffix_cons _ _).trans h1.2
            have hcs := hs.sublist.count_le 40
            rw [List.length_cons] at h1
            have := ihk r' (by omega) (by omega)
            cases hr : pRow72 (pIt72 n) k r' with
            | out => exact (this hr).elim
            | no => intro e; cases e
            | ok w => intro e; cases e
          · rw [pRow_end72 hf fun r z => hb ⟨r, z⟩]
            intro e; cases e).2
    have hi : ∀ l, l.count 40 < n + 1 → pIt72 (n + 1) l ≠ .out := by
      intro l hc
      by_cases h42 : ∃ r, l = 42 :: r
      · obtain ⟨r, rfl⟩ := h42
        rw [pIt_star73]
        intro e; cases e
      · have h42 : ∀ r, l ≠ 42 :: r := fun r z => h42 ⟨r, z⟩
        by_cases hw : 1 ≤ (l.takeWhile isL72).length ∧ (l.takeWhile isL72).length ≤ 8
        · by_cases er : ∃ r', l.dropWhile isL72 = 40 :: r'
          · obtain ⟨r', er⟩ := er
            have hs : (40 :: r') <:+ l := er ▸ List.dropWhile_suffix _
            have hcs := hs.sublist.count_le 40
            rw [List.count_cons_self] at hcs
            have := ihr (r'.length + 1) r' (by omega) (by omega)
            rw [pIt_open73 h42 hw er]
            cases hr : pRow72 (pIt72 n) (r'.length + 1) r' with
            | out => exact (this hr).elim
            | no => rw [nd72]; intro e; cases e
            | ok w =>
              obtain ⟨its, q⟩ := w
              by_cases hq : ∃ q'', q = 41 :: q''
              · obtain ⟨q'', rfl⟩ := hq
                rw [nd_shut73]
                intro e; cases e
              · rw [nd_no73 fun r z => hq ⟨r, z⟩]
                intro e; cases e
          · rw [pIt_leaf73 h42 hw fun r z => er ⟨r, z⟩]
            intro e; cases e
        · rw [pIt_no73 h42 hw]
          intro e; cases e
    exact ⟨hi, row hi⟩
theorem dw_cons73 {c : Nat} {r : List Nat} (h : isL72 c = true) : ((c :: r).dropWhile isL72).length ≤ r.length := by
  rw [List.dropWhile_cons, if_pos h]
  exact dw_len73 _ _
/-- the machine's fuel -/
theorem mc_fuel73 : ∀ (n : Nat) (stk : List (Str × List It)) (cur : List It) (due : Bool) (r : List Nat) (m : Nat), r.length < n → r.length < m → mc73 n stk cur due r = mc73 m stk cur due r
  | 0, _, _, _, _, _, h, _ => by omega
  | _ + 1, _, _, _, _, 0, _, h => by omega
  | n + 1, stk, cur, due, [], m + 1, _, _ => by cases due <;> rfl
  | n + 1, stk, cur, true, c :: r, m + 1, h1, h2 => by
    rw [List.length_cons] at h1 h2
    rw [mc73, mc73]
    by_cases a : isL72 c = true
    · rw [if_pos a, if_pos a]
      have hd := dw_cons73 (r := r) a
      have ht : ((c :: r).dropWhile isL72).tail.length ≤ r.length := by rw [List.length_tail]; omega
      rw [mc_fuel73 n _ _ true ((c :: r).dropWhile isL72).tail m (by omega) (by omega), mc_fuel73 n stk _ false ((c :: r).dropWhile isL72) m (by omega) (by omega)]
    · rw [if_neg a, if_neg a, mc_fuel73 n _ _ false r m (by omega) (by omega)]
  | n + 1, stk, cur, false, c :: r, m + 1, h1, h2 => by
    rw [List.length_cons] at h1 h2
    cases stk with
    | nil =>
      rw [mc73, mc73, mc_fuel73 n [] cur true r m (by omega) (by omega)]
    | cons p stk =>
      obtain ⟨x, up⟩ := p
      rw [mc73, mc73, mc_fuel73 n ((x, up) :: stk) cur true r m (by omega) (by omega), mc_fuel73 n stk _ false r m (by omega) (by omega)]
/-- what the machine does behind one item, and behind a row of items -/
def aft73 (N : Nat) (stk : List (Str × List It)) (cur : List It) : PR72 (List It × List Nat) → Option (List It)
  | .ok (its, q) => mc73 N stk (cur ++ its) false q
  | _ => none
def It73 (n : Nat) : Prop := ∀ l stk cur N, l.length < N → pIt72 n l ≠ .out → mc73 N stk cur true l = match pIt72 n l with
      | .ok (i, q) => mc73 N stk (cur ++ [i]) false q
      | _ => none
def Row73 (n : Nat) : Prop := ∀ k l stk cur N, l.length < N → pRow72 (pIt72 n) k l ≠ .out → mc73 N stk cur true l = aft73 N stk cur (pRow72 (pIt72 n) k l)
theorem mc_row73 {n : Nat} (hi : It73 n) : Row73 n := by
  intro k
  induction k with
  | zero => intro l stk cur N _ h; rw [pRow72] at h; exact (h rfl).elim
  | succ k ih =>
    intro l stk cur N hN h
    cases hf : pIt72 n l with
    | out => rw [pRow72, hf] at h; exact (h rfl).elim
    | no =>
      rw [hi l stk cur N hN (by rw [hf]; intro e; cases e), pRow72, hf]
      rfl
    | ok w =>
      obtain ⟨i, q⟩ := w
      have h1 := (pIt_len73 n).1 l i q hf
      rw [hi l stk cur N hN (by rw [hf]; intro e; cases e), hf]
      dsimp only
      by_cases hb : ∃ r', q = 32 :: r'
      · obtain ⟨r', rfl⟩ := hb
        rw [pRow_blank72 hf] at h ⊢
        rw [List.length_cons] at h1
        have hr0 : pRow72 (pIt72 n) k r' ≠ .out := fun e => by rw [e] at h; exact h rfl
        have := ih r' stk (cur ++ [i]) N (by omega) hr0
        obtain ⟨N, rfl⟩ : ∃ M, N = M + 1 := ⟨N - 1, by omega⟩
        have e32 : mc73 (N + 1) stk (cur ++ [i]) false (32 :: r') = mc73 (N + 1) stk (cur ++ [i]) true r' := by
          rw [mc_fuel73 (N + 1) stk (cur ++ [i]) true r' N (by omega) (by omega)]
          cases stk with
          | nil => rw [mc73, if_neg (by decide), if_pos rfl]
          | cons p stk =>
            obtain ⟨x, up⟩ := p
            rw [mc73, if_neg (by decide), if_pos rfl]
        rw [e32, this]
        cases pRow72 (pIt72 n) k r' with
        | out => rfl
        | no => rfl
        | ok w =>
          obtain ⟨its, q⟩ := w
          show mc73 _ _ _ _ _ = mc73 _ _ _ _ _
          rw [List.append_assoc]
          rfl
      · rw [pRow_end72 hf fun r z => hb ⟨r, z⟩]
        rfl
theorem mc_read73 : ∀ n : Nat, It73 n
  | 0 => fun l stk cur N _ h => (h (by rw [pIt72])).elim
  | n + 1 => by
    have ihr := mc_row73 (mc_read73 n)
    intro l stk cur N hN h
    obtain ⟨N, rfl⟩ : ∃ M, N = M + 1 := ⟨N - 1, by omega⟩
    by_cases h42 : ∃ r, l = 42 :: r
    · obtain ⟨r, rfl⟩ := h42
      rw [List.length_cons] at hN
      rw [pIt_star73]
      dsimp only
      rw [mc73, if_neg (by decide), if_pos rfl, mc_fuel73 N _ _ _ _ (N + 1) (by omega) (by omega)]
    · have h42 : ∀ r, l ≠ 42 :: r := fun r z => h42 ⟨r, z⟩
      cases l with
      | nil =>
        rw [pIt_no73 h42 (by simp)]
        rfl
      | cons c r =>
        have hc42 : c ≠ 42 := fun z => h42 r (by rw [z])
        rw [List.length_cons] at hN
        by_cases a : isL72 c = true
        · have hd := dw_cons73 (r := r) a
          have h1 : 1 ≤ ((c :: r).takeWhile isL72).length := by
            rw [List.takeWhile_cons, if_pos a]
            simp
          rw [mc73, if_pos a]
          by_cases h8 : ((c :: r).takeWhile isL72).length ≤ 8
          · rw [if_pos h8]
            by_cases er : ∃ r', (c :: r).dropWhile isL72 = 40 :: r'
            · obtain ⟨r', er⟩ := er
              rw [pIt_open73 h42 ⟨h1, h8⟩ er] at h ⊢
              rw [er] at hd ⊢
              rw [if_pos (show (40 :: r').head? = some 40 from rfl), List.tail_cons]
              rw [List.length_cons] at hd
              generalize mS ((c :: r).takeWhile isL72) = x at *
              have hr0 : pRow72 (pIt72 n) (r'.length + 1) r' ≠ .out := fun e => by rw [e] at h; exact h rfl
              rw [ihr (r'.length + 1) r' ((x, cur) :: stk) [] N (by omega) hr0]
              cases hr : pRow72 (pIt72 n) (r'.length + 1) r' with
              | out => exact (hr0 hr).elim
              | no => rfl
              | ok w =>
                obtain ⟨its, q⟩ := w
                have hql := ((pIt_len73 n).2 _ _ _ _ hr).1
                have hnb := pRow_nb73 _ _ _ _ hr
                show mc73 N ((x, cur) :: stk) ([] ++ its) false q = _
                rw [List.nil_append]
                obtain ⟨N, rfl⟩ : ∃ M, N = M + 1 := ⟨N - 1, by omega⟩
                by_cases hq : ∃ q'', q = 41 :: q''
                · obtain ⟨q'', rfl⟩ := hq
                  rw [List.length_cons] at hql
                  rw [nd_shut73]
                  dsimp only
                  rw [mc73, if_pos rfl]
                  exact mc_fuel73 _ _ _ _ _ _ (by omega) (by omega)
                · rw [nd_no73 fun r z => hq ⟨r, z⟩]
                  dsimp only
                  cases q with
                  | nil => rw [mc73, if_pos (Or.inr (by simp))]
                  | cons d q =>
                    rw [mc73, if_neg (fun z => hq ⟨q, by rw [z]⟩), if_neg (fun z => hnb q (by rw [z]))]
            · have er : ∀ r', (c :: r).dropWhile isL72 ≠ 40 :: r' := fun r z => er ⟨r, z⟩
              rw [pIt_leaf73 h42 ⟨h1, h8⟩ er]
              dsimp only
              have hh : ((c :: r).dropWhile isL72).head? ≠ some 40 := fun z => by
                cases e : (c :: r).dropWhile isL72 with
                | nil => rw [e] at z; cases z
                | cons d t =>
                  rw [e] at z
                  have : d = 40 := Option.some.inj z
                  exact er t (by rw [e, this])
              rw [if_neg hh]
              exact mc_fuel73 _ _ _ _ _ _ (by omega) (by omega)
          · rw [if_neg h8, pIt_no73 h42 fun z => h8 z.2]
        · rw [mc73, if_neg a, if_neg hc42, pIt_no73 h42 ?_]
          rw [List.takeWhile_cons, if_neg a]
          simp
/-- at the top: the machine and the reader tell the same -/
def its73 (n : Nat) (l : List Nat) : Option (List It) := match pRow72 (pIt72 n) (l.length + 1) l with
  | .ok (its, []) => some its
  | _ => none
theorem mc_top73 {n N : Nat} {l : List Nat} (hc : l.count 40 < n) (hN : l.length < N) : mc73 N [] [] true l = its73 n l := by
  have ho := (pIt_out73 n).2 (l.length + 1) l hc (by omega)
  rw [mc_row73 (mc_read73 n) (l.length + 1) l [] [] N hN ho]
  unfold its73
  cases hr : pRow72 (pIt72 n) (l.length + 1) l with
  | out => exact (ho hr).elim
  | no => rfl
  | ok w =>
    obtain ⟨its, q⟩ := w
    have hql := ((pIt_len73 n).2 _ _ _ _ hr).1
    have hnb := pRow_nb73 _ _ _ _ hr
    obtain ⟨N, rfl⟩ : ∃ M, N = M + 1 := ⟨N - 1, by omega⟩
    show mc73 (N + 1) [] ([] ++ its) false q = _
    rw [List.nil_append]
    cases q with
    | nil => rw [mc73, if_neg (by simp)]
    | cons d q =>
      have hd : ¬ d = 32 := fun z => hnb q (by rw [z])
      rw [mc73, if_neg hd]
      split <;> rfl
end
section
open PySem L2
/-! == and in of plain data: None, whole numbers, texts, tuples of these. -/
mutual
def pln : Nat → D → Prop
  | _, .non => True
  | _, .int _ => True
  | _, .str x => PyData.strOk x = true
  | n, .tup l => 1 ≤ n ∧ plns (n - 1) l
  | _, .bl _ => False
  | _, .ref _ => False
  | _, .xo _ _ _ => False
def plns : Nat → List D → Prop
  | _, [] => True
  | n, d :: l => pln n d ∧ plns n l
end
mutual
def pyD : D → PyData
  | .non => .none
  | .int i => .int i
  | .str x => .str x
  | .tup l => .tuple (pyDs l)
  | .bl _ => .none
  | .ref _ => .none
  | .xo _ _ _ => .none
def pyDs : List D → List PyData
  | [] => []
  | d :: l => pyD d :: pyDs l
end
theorem plns_iff {n : Nat} : ∀ {l : List D}, plns n l ↔ ∀ d ∈ l, pln n d
  | [] => by simp [plns]
  | d :: l => by rw [plns, plns_iff (l := l)]; simp
theorem pyDs_eq : ∀ l : List D, pyDs l = l.map pyD
  | [] => rfl
  | d :: l => by rw [pyDs, pyDs_eq l]; rfl
mutual
theorem pyOf_pln : ∀ (n m : Nat) (h : MH) (d : D), pln n d → n < m → pyOf m h d = some (pyD d)
  | n, 0, h, d, _, hm => by omega
  | n, m + 1, h, .non, _, _ => rfl
  | n, m + 1, h, .int i, _, _ => rfl
  | n, m + 1, h, .str x, _, _ => rfl
  | n, m + 1, h, .tup l, hp, hm => by
    obtain ⟨h1, h2⟩ := (hp : 1 ≤ n ∧ plns (n - 1) l)
    show (allSome (l.map (pyOf m h))).map PyData.tuple = _
    rw [pyOfs_pln (n - 1) m h l h2 (by omega)]
    rfl
  | n, m + 1, h, .bl _, hp, _ => False.elim hp
  | n, m + 1, h, .ref _, hp, _ => False.elim hp
  | n, m + 1, h, .xo _ _ _, hp, _ => False.elim hp
theorem pyOfs_pln : ∀ (n m : Nat) (h : MH) (l : List D), plns n l → n < m → allSome (l.map (pyOf m h)) = some (pyDs l)
  | n, m, h, [], _, _ => rfl
  | n, m, h, d :: l, hp, hm => by
    obtain ⟨h1, h2⟩ := hp
    rw [List.map_cons, pyOf_pln n m h d h1 hm]
    show (allSome (l.map (pyOf m h))).map (pyD d :: ·) = _
    rw [pyOfs_pln n m h l h2 hm]
    rfl
end
mutual
theorem py_lay : ∀ (n : Nat) (d : D), pln n d → (pyD d).canLay0 = true ∧ (pyD d).depth ≤ n
  | n, .non, _ => ⟨rfl, Nat.zero_le _⟩
  | n, .int i, _ => ⟨rfl, Nat.zero_le _⟩
  | n, .str x, h => ⟨h, Nat.zero_le _⟩
  | n, .tup l, hp => by
    obtain ⟨h1, h2⟩ := (hp : 1 ≤ n ∧ plns (n - 1) l)
    obtain ⟨h3, h4⟩ := pys_lay (n - 1) l h2
    rw [pyD]
    refine ⟨by simpa [PyData.canLay0] using h3, ?_⟩
    simp only [PyData.depth]
    omega
  | n, .bl _, hp => False.elim hp
  | n, .ref _, hp => False.elim hp
  | n, .xo _ _ _, hp => False.elim hp
theorem pys_lay : ∀ (n : Nat) (l : List D), plns n l → PyData.canLayAll0 (pyDs l) = true ∧ PyData.depthAll (pyDs l) ≤ n
  | n, [], _ => ⟨rfl, Nat.zero_le _⟩
  | n, d :: l, hp => by
    obtain ⟨h1, h2⟩ := py_lay n d hp.1
    obtain ⟨h3, h4⟩ := pys_lay n l hp.2
    rw [pyDs]
    refine ⟨by rw [PyData.canLayAll0, h1, h3]; rfl, ?_⟩
    rw [PyData.depthAll]
    omega
end
theorem py_shaped {n : Nat} {d : D} (h : pln n d) (hn : n ≤ 64) : SeqAt.shaped (pyD d) = true := by
  obtain ⟨h1, h2⟩ := py_lay n d h
  unfold SeqAt.shaped
  rw [h1]
  simp
  omega
mutual
theorem py_eqv : ∀ (n m : Nat) (a b : D), pln n a → pln m b → PyData.eqv (pyD a) (pyD b) = decide (a = b)
  | n, m, a, b, ha, hb => by
    cases a with
    | non => cases b with
      | non => rfl
      | int i => rfl
      | str x => rfl
      | tup l => rfl
      | _ => exact False.elim hb
    | int i => cases b with
      | int j => simp only [pyD, PyData.eqv]; rw [Bool.eq_iff_iff]; simp
      | non => rfl
      | str x => rfl
      | tup l => rfl
      | _ => exact False.elim hb
    | str x => cases b with
      | str y => simp only [pyD, PyData.eqv]; rw [Bool.eq_iff_iff]; simp
      | non => rfl
      | int i => rfl
      | tup l => rfl
      | _ => exact False.elim hb
    | tup l => cases b with
      | tup k =>
        obtain ⟨h1, h2⟩ := (ha : 1 ≤ n ∧ plns (n - 1) l)
        obtain ⟨h3, h4⟩ := (hb : 1 ≤ m ∧ plns (m - 1) k)
        simp only [pyD, PyData.eqv]
        rw [py_eqvs (n - 1) (m - 1) l k h2 h4]
        rw [Bool.eq_iff_iff]; simp
      | non => rfl
      | int i => rfl
      | str x => rfl
      | _ => exact False.elim hb
    | bl _ => exact False.elim ha
    | ref _ => exact False.elim ha
    | xo _ _ _ => exact False.elim ha
theorem py_eqvs : ∀ (n m : Nat) (a b : List D), plns n a → plns m b → PyData.eqvAll (pyDs a) (pyDs b) = decide (a = b)
  | n, m, [], [], _, _ => rfl
  | n, m, [], _ :: _, _, _ => rfl
  | n, m, _ :: _, [], _, _ => rfl
  | n, m, x :: a, y :: b, ha, hb => by
    rw [pyDs, pyDs, PyData.eqvAll, py_eqv n m x y ha.1 hb.1, py_eqvs n m a b ha.2 hb.2, Bool.eq_iff_iff]
    simp
end
theorem eqF_pln {n : Nat} {a b : D} (ha : pln n a) (hb : pln n b) (fa : flatD a = true) (fb : flatD b = true) : eqF b a = decide (b = a) := by
  cases a <;> cases b <;> simp only [eqF, flatD, pln] at * <;> first | cases fa; done | cases fb; done | exact ha.elim | exact hb.elim | rfl | (rw [Bool.eq_iff_iff]; simp; done)
theorem inD_pln {n : Nat} {a : D} {l : List D} {i : Nat} {h : MH} (ha : pln n a) (hl : plns n l) (hn : n ≤ 58) (e : getL h i = some l) : inD a (.ref i) h = some (decide (a ∈ l)) := by
  have hl' := plns_iff.mp hl
  have gen : (if flatD a = true ∧ l.all flatD = true then some (l.any fun y => eqF y a) else match pyOf 60 h a, pyOf 60 h (.ref i) with
      | some d, some (.list es) => if SeqAt.shaped d = true ∧ SeqAt.shaped (.list es) = true then some (es.any fun z => PyData.eqv z d) else none
      | _, _ => none) = some (decide (a ∈ l)) := by
    split
    · rename_i c
      have fl := List.all_eq_true.mp c.2
      rw [Option.some.injEq, Bool.eq_iff_iff, List.any_eq_true, decide_eq_true_iff]
      constructor
      · rintro ⟨y, hy, e⟩
        rw [eqF_pln ha (hl' y hy) c.1 (fl y hy), decide_eq_true_iff] at e
        exact e ▸ hy
      · intro hx
        exact ⟨a, hx, by rw [eqF_pln ha ha c.1 c.1]; simp⟩
    · have e2 : pyOf 60 h (.ref i) = some (.list (pyDs l)) := by
        show ((getL h i).bind fun l => (allSome (l.map (pyOf 59 h))).map PyData.list) = _
        rw [e]
        show (allSome (l.map (pyOf 59 h))).map PyData.list = _
        rw [pyOfs_pln n 59 h l hl (by omega)]
        rfl
      rw [pyOf_pln n 60 h a ha (by omega), e2]
      simp only
      have hs : SeqAt.shaped (.list (pyDs l)) = true := by
        obtain ⟨h3, h4⟩ := pys_lay n l hl
        unfold SeqAt.shaped
        rw [show (PyData.list (pyDs l)).canLay0 = PyData.canLayAll0 (pyDs l) by simp [PyData.canLay0], h3]
        have : (PyData.list (pyDs l)).depth ≤ 64 := by simp only [PyData.depth]; omega
        simpa using this
      rw [if_pos ⟨py_shaped ha (by omega), hs⟩, Option.some.injEq, Bool.eq_iff_iff, List.any_eq_true, decide_eq_true_iff]
      constructor
      · rintro ⟨z, hz, e⟩
        rw [pyDs_eq] at hz
        obtain ⟨y, hy, rfl⟩ := List.mem_map.mp hz
        rw [py_eqv n n y a (hl' y hy) ha, decide_eq_true_iff] at e
        exact e ▸ hy
      · intro hx
        refine ⟨pyD a, by rw [pyDs_eq]; exact List.mem_map.mpr ⟨a, hx, rfl⟩, ?_⟩
        rw [py_eqv n n a a ha ha]; simp
  cases a <;> simp only [inD, seqOf, e] <;> exact gen
theorem w_inP {n : Nat} {a : D} {l : List D} {i : Nat} {h : MH} {Q : D → MH → Prop} {E : XE} (ha : pln n a) (hl : plns n l) (hn : n ≤ 58) (e : getL h i = some l) (q : Q (.bl (decide (a ∈ l))) h) : Sat (dIn a (.ref i) h) Q E := w_eq (by simp only [dIn, inD_pln ha hl hn e]) q
end
section
open PySem L2
end
section
open PySem L2
/-! nine names -/
/-! rows drawn -/
abbrev Rw3 := Str × Str × Nat × List Str
def r3D (r : Rw3) : D := .tup [.str r.1, .str r.2.1, .ref r.2.2.1]
structure R3 (h : MH) (r : Rw3) : Prop where
  f : Nm r.1
  n : Nm r.2.1
  l : getL h r.2.2.1 = some (r.2.2.2.map .str)
  s : ∀ x ∈ r.2.2.2, Nm x
  c : r.2.2.2.length ≤ 3
def cel (r : Rw3) : Nat × List D := (r.2.2.1, r.2.2.2.map .str)
end
section
open PySem L2

local macro_rules | `(tactic| walk_at "lk") => `(tactic| first | with_reducible exact lkA | (apply lkB; decide +kernel; walk_at "lk"))
local macro_rules | `(tactic| walk_at "mk") => `(tactic| first | with_reducible exact mkA | (apply mkB; decide +kernel; walk_at "mk"))
local macro_rules | `(tactic| walk_at "fk") => `(tactic| first | with_reducible exact fkA | exact fkN | (apply fkB; decide +kernel; walk_at "fk"))
local macro_rules | `(tactic| walk_at "cs") => `(tactic| first | exact List.mem_cons_self | (apply List.mem_cons_of_mem; walk_at "cs"))
local macro_rules | `(tactic| walk_at "w") => `(tactic| first
  | with_reducible refine w_fld ?_
  | ((with_reducible refine w_fldK (c := ?_) (fs := ?_) (v := ?_) ?_ ?_ ?_ ?_); rotate_left; rotate_left; rotate_left; (with_reducible assumption); (walk_at "cs"); (walk_at "fk"))
  | with_reducible refine w_setFld ?_
  | with_reducible refine w_new ?_
  | with_reducible refine w_methI ?_
  | ((with_reducible refine w_methK (c := ?_) (fs := ?_) (F := ?_) ?_ ?_ ?_ ?_); rotate_left; rotate_left; rotate_left; (with_reducible assumption); (walk_at "mk"); (walk_at "fk"))
  | with_reducible refine w_isC ?_
  | ((with_reducible refine w_isCK (c := ?_) (fs := ?_) (k := ?_) ?_ ?_ ?_); rotate_left; rotate_left; rotate_left; (with_reducible assumption); (walk_at "lk"))
  | with_reducible refine w_callD ?_
  | with_reducible refine w_mDSet ?_
  | with_reducible refine w_eq (nN_non _) ?_
  | with_reducible refine w_eq (nN_int _ _) ?_
  | with_reducible refine w_eq (nN_tup _ _) ?_
  | with_reducible refine w_eq (nN_ref _ _) ?_
  | with_reducible refine w_eq (iN_non _) ?_
  | with_reducible refine w_eq (iN_int _ _) ?_
  | with_reducible refine w_eq (iN_tup _ _) ?_
  | with_reducible refine w_eq (iN_ref _ _) ?_)
/-! what is due -/
def Dup (fs : List Str) (k : Nat) : Prop := ∃ x, fs[k]? = some x ∧ x ∈ fs.take k
def Miss (rs : List Rw3) (k : Nat) : Prop := ∃ r, rs[k]? = some r ∧ ∃ x ∈ r.2.2.2, x ∉ rs.map (·.1)
def Fst (n : Nat) (P : Nat → Prop) (k : Nat) : Prop := k < n ∧ P k ∧ ∀ j, j < k → ¬ P j
theorem Fst.eq {n : Nat} {P : Nat → Prop} {j k : Nat} (a : Fst n P j) (b : Fst n P k) : j = k := by
  rcases Nat.lt_trichotomy j k with z | z | z
  · exact absurd a.2.1 (b.2.2 j z)
  · exact z
  · exact absurd b.2.1 (a.2.2 k z)
def Due (rs : List Rw3) (d : D) : Prop := (rs.length = 0 ∧ d = .int 0) ∨ (8 < rs.length ∧ d = .int 8) ∨ ((0 < rs.length ∧ rs.length ≤ 8) ∧
  ((∃ k : Nat, Fst rs.length (Dup (rs.map (·.1))) k ∧ d = .int (k : Int)) ∨ ((∀ j, j < rs.length → ¬ Dup (rs.map (·.1)) j) ∧
    ((∃ k : Nat, Fst rs.length (Miss rs) k ∧ d = .int (k : Int)) ∨ ((∀ j, j < rs.length → ¬ Miss rs j) ∧ d = .non)))))
theorem Due.eq {rs : List Rw3} {d e : D} (a : Due rs d) (b : Due rs e) : d = e := by
  rcases a with ⟨a1, rfl⟩ | ⟨a1, rfl⟩ | ⟨a1, a2⟩ <;> rcases b with ⟨b1, rfl⟩ | ⟨b1, rfl⟩ | ⟨b1, b2⟩ <;> try (first | rfl | omega)
  rcases a2 with ⟨k, a3, rfl⟩ | ⟨a3, a4⟩ <;> rcases b2 with ⟨j, b3, rfl⟩ | ⟨b3, b4⟩
  · rw [a3.eq b3]
  · exact absurd a3.2.1 (b3 _ a3.1)
  · exact absurd b3.2.1 (a3 _ b3.1)
  · rcases a4 with ⟨k, a5, rfl⟩ | ⟨a5, rfl⟩ <;> rcases b4 with ⟨j, b5, rfl⟩ | ⟨b5, rfl⟩
    · rw [a5.eq b5]
    · exact absurd a5.2.1 (b5 _ a5.1)
    · exact absurd b5.2.1 (a5 _ b5.1)
    · rfl
theorem cutT21 {l : List D} {z : Int} (h : 0 ≤ z) : cutD l none (some z) = l.take z.toNat := by
  obtain ⟨k, rfl⟩ := Int.eq_ofNat_of_zero_le h
  rw [Int.toNat_natCast]
  unfold cutD
  rw [HT.sIx_none, HT.sIx_nat, List.drop_zero, Nat.sub_zero]
  rcases Nat.lt_or_ge k l.length with z | z
  · rw [Nat.min_eq_left (Nat.le_of_lt z)]
  · rw [Nat.min_eq_right z, List.take_length, List.take_of_length_le z]
end
section
open PySem L2

local macro_rules | `(tactic| walk_at "lk") => `(tactic| first | with_reducible exact lkA | (apply lkB; decide +kernel; walk_at "lk"))
local macro_rules | `(tactic| walk_at "mk") => `(tactic| first | with_reducible exact mkA | (apply mkB; decide +kernel; walk_at "mk"))
local macro_rules | `(tactic| walk_at "fk") => `(tactic| first | with_reducible exact fkA | exact fkN | (apply fkB; decide +kernel; walk_at "fk"))
local macro_rules | `(tactic| walk_at "cs") => `(tactic| first | exact List.mem_cons_self | (apply List.mem_cons_of_mem; walk_at "cs"))
local macro_rules | `(tactic| walk_at "w") => `(tactic| first
  | with_reducible refine w_fld ?_
  | ((with_reducible refine w_fldK (c := ?_) (fs := ?_) (v := ?_) ?_ ?_ ?_ ?_); rotate_left; rotate_left; rotate_left; (with_reducible assumption); (walk_at "cs"); (walk_at "fk"))
  | with_reducible refine w_setFld ?_
  | with_reducible refine w_new ?_
  | with_reducible refine w_methI ?_
  | ((with_reducible refine w_methK (c := ?_) (fs := ?_) (F := ?_) ?_ ?_ ?_ ?_); rotate_left; rotate_left; rotate_left; (with_reducible assumption); (walk_at "mk"); (walk_at "fk"))
  | with_reducible refine w_isC ?_
  | ((with_reducible refine w_isCK (c := ?_) (fs := ?_) (k := ?_) ?_ ?_ ?_); rotate_left; rotate_left; rotate_left; (with_reducible assumption); (walk_at "lk"))
  | with_reducible refine w_callD ?_
  | with_reducible refine w_mDSet ?_
  | with_reducible refine w_eq (nN_non _) ?_
  | with_reducible refine w_eq (nN_int _ _) ?_
  | with_reducible refine w_eq (nN_tup _ _) ?_
  | with_reducible refine w_eq (nN_ref _ _) ?_
  | with_reducible refine w_eq (iN_non _) ?_
  | with_reducible refine w_eq (iN_int _ _) ?_
  | with_reducible refine w_eq (iN_tup _ _) ?_
  | with_reducible refine w_eq (iN_ref _ _) ?_)
/-! forms spoken of -/
mutual
def PT.fms : PT → List Str
  | .one x => [x]
  | .times p _ _ => p.fms
  | .chain l => PT.fmss l
  | .choice l => PT.fmss l
  | .mixed l => PT.fmss l
def PT.fmss : List PT → List Str
  | [] => []
  | p :: l => p.fms ++ PT.fmss l
end
theorem strKeys_val : ∀ {kvs : List (Key × D)} {ks : List Str} (x : Str), strKeys kvs = some ks → (valD kvs (.inr x)).isSome = decide (x ∈ ks)
  | [], ks, x, e => by cases e; simp [valD]
  | (.inl _, _) :: _, ks, x, e => by cases e
  | (.inr y, v) :: l, ks, x, e => by
    simp only [strKeys, Option.map_eq_some_iff] at e
    obtain ⟨r, e, rfl⟩ := e
    by_cases z : y = x
    · subst z
      simp [valD, List.find?_cons]
    · have h1 : valD ((.inr y, v) :: l) (.inr x) = valD l (.inr x) := by simp [valD, List.find?_cons, z]
      rw [h1, strKeys_val x e]
      simp [Ne.symm z]
theorem strKeys_app : ∀ {kvs : List (Key × D)} {ks : List Str} (x : Str) (v : D), strKeys kvs = some ks → strKeys (kvs ++ [(.inr x, v)]) = some (ks ++ [x])
  | [], ks, x, v, e => by cases e; rfl
  | (.inl _, _) :: _, ks, x, v, e => by cases e
  | (.inr y, w) :: l, ks, x, v, e => by
    simp only [strKeys, Option.map_eq_some_iff] at e
    obtain ⟨r, e, rfl⟩ := e
    rw [List.cons_append]
    simp only [strKeys, strKeys_app x v e]
    rfl
theorem strKeys_rep : ∀ {kvs : List (Key × D)} (k : Key) (v : D), strKeys (kvs.map fun kv => if kv.1 = k then (kv.1, v) else kv) = strKeys kvs
  | [], k, v => rfl
  | (.inl i, w) :: l, k, v => by
    rw [List.map_cons]
    by_cases z : Sum.inl i = k
    · rw [if_pos z]; rfl
    · rw [if_neg z]; rfl
  | (.inr y, w) :: l, k, v => by
    rw [List.map_cons]
    have ih := strKeys_rep (kvs := l) k v
    by_cases z : Sum.inr y = k
    · rw [if_pos z]; simp only [strKeys, ih]
    · rw [if_neg z]; simp only [strKeys, ih]
theorem strKeys_put {kvs : List (Key × D)} {ks : List Str} (x : Str) (v : D) (e : strKeys kvs = some ks) : strKeys (putKD kvs (.inr x) v) = some (if x ∈ ks then ks else ks ++ [x]) := by
  have hs := strKeys_val x e
  have ha : (kvs.any fun kv => decide (kv.1 = Sum.inr x)) = (valD kvs (.inr x)).isSome := by
    unfold valD
    rw [Option.isSome_map, Bool.eq_iff_iff, List.any_eq_true, List.find?_isSome]
  unfold putKD
  rw [ha, hs]
  by_cases z : x ∈ ks
  · rw [if_pos (by simpa using z), if_pos z, strKeys_rep, e]
  · rw [if_neg (by simpa using z), if_neg z, strKeys_app x v e]
/-! speaks -/
abbrev tabS (n : Nat) : MTab := [((Str.ofString "One"), (m_One_speaks_46a94)), ((Str.ofString "Chain"), (m_scc_Chain_speaks_d27eb n 0)), ((Str.ofString "Choice"), (m_scc_Chain_speaks_d27eb n 1)), ((Str.ofString "Times"), (m_scc_Chain_speaks_d27eb n 3)), ((Str.ofString "Mixed"), (m_scc_Chain_speaks_d27eb n 2))]
def SpkQ (p : PT) (h : MH) (y : D) (h' : MH) : Prop := ∃ (j : Nat) (ys : List Str), y = .ref j ∧ Own h h' [(j, ys.map .str)] ∧ (∀ x, x ∈ ys ↔ x ∈ p.fms) ∧ ys.length ≤ p.sz
def SpkAt (n : Nat) : Prop := ∀ (p : PT) (d : D) (h : MH) (ρ : Slots), Pat h p d → 2 * p.dep ≤ n → p.sz ≤ 10000 → Sat (methK (Str.ofString "speaks") (tabS n) mNil ρ d h) (SpkQ p h) noX
end
section
open PySem L2

local macro_rules | `(tactic| walk_at "lk") => `(tactic| first | with_reducible exact lkA | (apply lkB; decide +kernel; walk_at "lk"))
local macro_rules | `(tactic| walk_at "mk") => `(tactic| first | with_reducible exact mkA | (apply mkB; decide +kernel; walk_at "mk"))
local macro_rules | `(tactic| walk_at "fk") => `(tactic| first | with_reducible exact fkA | exact fkN | (apply fkB; decide +kernel; walk_at "fk"))
local macro_rules | `(tactic| walk_at "cs") => `(tactic| first | exact List.mem_cons_self | (apply List.mem_cons_of_mem; walk_at "cs"))
local macro_rules | `(tactic| walk_at "w") => `(tactic| first
  | with_reducible refine w_fld ?_
  | ((with_reducible refine w_fldK (c := ?_) (fs := ?_) (v := ?_) ?_ ?_ ?_ ?_); rotate_left; rotate_left; rotate_left; (with_reducible assumption); (walk_at "cs"); (walk_at "fk"))
  | with_reducible refine w_setFld ?_
  | with_reducible refine w_new ?_
  | with_reducible refine w_methI ?_
  | ((with_reducible refine w_methK (c := ?_) (fs := ?_) (F := ?_) ?_ ?_ ?_ ?_); rotate_left; rotate_left; rotate_left; (with_reducible assumption); (walk_at "mk"); (walk_at "fk"))
  | with_reducible refine w_isC ?_
  | ((with_reducible refine w_isCK (c := ?_) (fs := ?_) (k := ?_) ?_ ?_ ?_); rotate_left; rotate_left; rotate_left; (with_reducible assumption); (walk_at "lk"))
  | with_reducible refine w_callD ?_
  | with_reducible refine w_mDSet ?_
  | with_reducible refine w_eq (nN_non _) ?_
  | with_reducible refine w_eq (nN_int _ _) ?_
  | with_reducible refine w_eq (nN_tup _ _) ?_
  | with_reducible refine w_eq (nN_ref _ _) ?_
  | with_reducible refine w_eq (iN_non _) ?_
  | with_reducible refine w_eq (iN_int _ _) ?_
  | with_reducible refine w_eq (iN_tup _ _) ?_
  | with_reducible refine w_eq (iN_ref _ _) ?_)
def dpD72 : Nat := 26
mutual
theorem it_pln72 : ∀ (i : It) (n : Nat), i.nms → 2 * i.dp ≤ n → pln n i.toD
  | .hole, n, _, _ => by rw [It.toD, pln]; exact scal_str.lay _ star_ok
  | .nd x l, n, h, hn => by
    rw [It.dp] at hn
    rw [it_nd, pln, plns, pln, plns, pln, plns]
    exact ⟨by omega, scal_str.lay _ (nm_ok72 h.1), ⟨by omega, its_pln72 l (n - 1 - 1) h.2 (by omega)⟩, trivial⟩
theorem its_pln72 : ∀ (l : List It) (n : Nat), It.nmss l → 2 * It.dps l ≤ n → plns n (l.map It.toD)
  | [], n, _, _ => by rw [List.map_nil, plns]; trivial
  | i :: l, n, h, hn => by
    rw [It.dps] at hn
    rw [List.map_cons, plns]
    exact ⟨it_pln72 i n h.1 (by omega), its_pln72 l n h.2 (by omega)⟩
end
end
section
open PySem L2

local macro_rules | `(tactic| walk_at "lk") => `(tactic| first | with_reducible exact lkA | (apply lkB; decide +kernel; walk_at "lk"))
local macro_rules | `(tactic| walk_at "mk") => `(tactic| first | with_reducible exact mkA | (apply mkB; decide +kernel; walk_at "mk"))
local macro_rules | `(tactic| walk_at "fk") => `(tactic| first | with_reducible exact fkA | exact fkN | (apply fkB; decide +kernel; walk_at "fk"))
local macro_rules | `(tactic| walk_at "cs") => `(tactic| first | exact List.mem_cons_self | (apply List.mem_cons_of_mem; walk_at "cs"))
local macro_rules | `(tactic| walk_at "w") => `(tactic| first
  | with_reducible refine w_fld ?_
  | ((with_reducible refine w_fldK (c := ?_) (fs := ?_) (v := ?_) ?_ ?_ ?_ ?_); rotate_left; rotate_left; rotate_left; (with_reducible assumption); (walk_at "cs"); (walk_at "fk"))
  | with_reducible refine w_setFld ?_
  | with_reducible refine w_new ?_
  | with_reducible refine w_methI ?_
  | ((with_reducible refine w_methK (c := ?_) (fs := ?_) (F := ?_) ?_ ?_ ?_ ?_); rotate_left; rotate_left; rotate_left; (with_reducible assumption); (walk_at "mk"); (walk_at "fk"))
  | with_reducible refine w_isC ?_
  | ((with_reducible refine w_isCK (c := ?_) (fs := ?_) (k := ?_) ?_ ?_ ?_); rotate_left; rotate_left; rotate_left; (with_reducible assumption); (walk_at "lk"))
  | with_reducible refine w_callD ?_
  | with_reducible refine w_mDSet ?_
  | with_reducible refine w_eq (nN_non _) ?_
  | with_reducible refine w_eq (nN_int _ _) ?_
  | with_reducible refine w_eq (nN_tup _ _) ?_
  | with_reducible refine w_eq (nN_ref _ _) ?_
  | with_reducible refine w_eq (iN_non _) ?_
  | with_reducible refine w_eq (iN_int _ _) ?_
  | with_reducible refine w_eq (iN_tup _ _) ?_
  | with_reducible refine w_eq (iN_ref _ _) ?_)
/-! nine names, unlike one another -/
theorem flat1_26 : ∀ {ns : List Str}, (∀ x ∈ ns, Ls 1 x) → ∀ (k : Nat) x, ns[k]? = some x → (ns.map fun y => y.cps.toList).flatten[k]? = x.cps.toList[0]?
  | [], _, k, x, e => by simp at e
  | y :: ns, h, k, x, e => by
    have hy := h y List.mem_cons_self
    have hl := hy.1
    rw [str_len] at hl
    rw [List.map_cons, List.flatten_cons]
    cases k with
    | zero =>
      simp at e
      subst e
      rw [List.getElem?_append_left (by omega)]
    | succ k =>
      rw [List.getElem?_append_right (by omega), hl, Nat.add_sub_cancel]
      exact flat1_26 (fun z hz => h z (List.mem_cons_of_mem _ hz)) k x (by simpa using e)
theorem lt1_ne26 {a b : Int} {k : Int} (e : lt1 a = lt1 b) (hk : a - b = k) (h1 : k % 26 ≠ 0) : False := by
  unfold lt1 at e
  omega
theorem n_names9d {c : Int} {h : MH} : Sat (m_names_c11ae [.int c] h) (fun d h' => ∃ (i : Nat) (xs : List Str), d = .ref i ∧ Own h h' [(i, xs.map .str)] ∧ xs.length = 9 ∧ xs.Nodup ∧ ∀ x ∈ xs, Nm x) noX := by
  walk_at "fn"
  refine ⟨isStrD_str _ _, ?_⟩
  walk_at "go"
  refine o_comp (fun k y => ∃ x, y = .str x ∧ Ls 1 x ∧ x.cps.toList[0]? = some (lt1 (c % 26 + 3 * (0 + (k : Int))))) (Own.nil h) (by simp) (fun _ _ => rfl) ?_ ?_
  · intro i d h' hd _
    obtain ⟨hi, rfl⟩ := rangeD_get hd
    refine ⟨_, rfl, ?_⟩
    have hi' : i < 8 := hi
    walk_at "go"
    exact w_ltr1 ⟨rfl, _, rfl, l1_ls _, rfl⟩
  intro ys hy hp i1 h1 o1
  obtain ⟨ns, rfl, hn⟩ := strs_P (S := fun k x => Ls 1 x ∧ x.cps.toList[0]? = some (lt1 (c % 26 + 3 * (0 + (k : Int))))) hp
  have hy8 : ns.length = 8 := by simpa using hy
  have hn' : ∀ y ∈ ns, Ls 1 y := fun y hy => by
    obtain ⟨i, hi⟩ := List.mem_iff_getElem?.mp hy
    exact (hn i y hi).1
  have sm : (ns.map (·.length)).sum ≤ 8 := by
    rw [← hy8]
    clear hp hy hy8 o1 hn
    induction ns with
    | nil => simp
    | cons y ys ih =>
      have h1 := (hn' y List.mem_cons_self).1
      have h2 := ih fun z hz => hn' z (List.mem_cons_of_mem _ hz)
      simp only [List.map_cons, List.sum_cons, List.length_cons]
      omega
  walk_at "go"
  refine w_join (o1.atL 0 rfl) (by rw [show (Str.ofString "").length = 0 from rfl]; omega) ?_
  have hb := Ls.join hn'
  rw [hy8] at hb
  have hbk : ∀ k : Nat, k < 8 → (Txt.join (Str.ofString "") ns).cps.toList[k]? = some (lt1 (c % 26 + 3 * (0 + (k : Int)))) := fun k hk => by
    have e := List.getElem?_eq_getElem (l := ns) (i := k) (by omega)
    rw [join_cps, flat1_26 hn' k _ e]
    exact (hn k _ e).2
  generalize Txt.join (Str.ofString "") ns = base at hb hbk
  have hbl : base.length ≤ 8 := by rw [hb.1]; decide
  have hbl' : base.cps.toList.length = 8 := by rw [← str_len]; exact hb.1
  have ha8 := mod_in (c / 78) (n := 8) (by decide)
  walk_at "go"
  refine br_d (fun c1 => ?_) (fun c1 => ?_)
  · walk_at "go"
    refine o_comp (fun k y => ∃ x, y = .str x ∧ Nm x ∧ x.cps.toList[(c / 78 % 8).toNat]? = some (lt1 (c / 624 % 26 + (0 + (k : Int))))) o1.none (by simp) (fun _ _ => rfl) ?_ ?_
    · intro i d h' hd _
      obtain ⟨hi, rfl⟩ := rangeD_get hd
      have hi' : i < 9 := hi
      refine ⟨_, rfl, ?_⟩
      walk_at "go"
      refine w_ltr1 ?_
      have hA := hb.to ha8.1 (by omega)
      refine w_addLs hA (l1_ls _) (by omega) fun h5 => ?_
      walk_at "go"
      refine w_addLs h5 (hb.from (a := c / 78 % 8 + 1) (by omega) (by omega)) (by omega) fun h6 => ?_
      refine ⟨rfl, _, rfl, h6.nm (by omega) (by omega), ?_⟩
      have hl := hA.1
      rw [str_len] at hl
      rw [app_cps, app_cps, List.append_assoc, List.getElem?_append_right (by omega), hl, Nat.sub_self]
      rfl
    · intro ys hy hp i2 h2 o2
      obtain ⟨xs, rfl, hx⟩ := strs_P (S := fun k x => Nm x ∧ x.cps.toList[(c / 78 % 8).toNat]? = some (lt1 (c / 624 % 26 + (0 + (k : Int))))) hp
      have hl : xs.length = 9 := by simpa using hy
      refine ⟨i2, xs, rfl, o2, hl, nodup_P2 (fun x => x.cps.toList[(c / 78 % 8).toNat]?) (fun i => some (lt1 (c / 624 % 26 + (0 + (i : Int))))) (fun i x h => (hx i x h).2) fun i j hij hj e => ?_, fun x hx' => ?_⟩
      · exact lt1_ne26 (Option.some.inj e) (k := (i : Int) - j) (by omega) (by omega)
      · obtain ⟨i, hi⟩ := List.mem_iff_getElem?.mp hx'
        exact (hx i x hi).1
  · walk_at "go"
    refine br_d (fun c2 => ?_) (fun c2 => ?_)
    · walk_at "go"
      refine o_comp (fun k y => ∃ x, y = .str x ∧ Ls (k + 1) x ∧ (x.cps.toList[0]? = some (lt1 (c % 26 + 0)) ∧ k < 8)) o1.none (by simp) (fun _ _ => rfl) ?_ ?_
      · intro i d h' hd _
        obtain ⟨hi, rfl⟩ := rangeD_get hd
        have hi' : i < 8 := hi
        refine ⟨_, rfl, ?_⟩
        walk_at "go"
        have := hb.to (a := 0 + (i : Int) + 1) (by omega) (by omega)
        rw [show (0 + (i : Int) + 1).toNat = i + 1 by omega] at this
        refine ⟨rfl, _, rfl, this, ?_, hi'⟩
        rw [cutP_to (by omega), List.getElem?_take_of_lt (by omega), hbk 0 (by decide)]
        rfl
      intro ys hy hp i2 h2 o2
      obtain ⟨xs, rfl, hx⟩ := strs_P (S := fun k x => Ls (k + 1) x ∧ (x.cps.toList[0]? = some (lt1 (c % 26 + 0)) ∧ k < 8)) hp
      have hl : xs.length = 8 := by simpa using hy
      walk_at "go"
      refine o_new o2 (by simp) fun i3 h3 o3 => ?_
      refine o_add o3 (o3.at 1 rfl) (o3.at 0 rfl) (by simp [hl]) fun i4 h4 o4 => ?_
      have hz := hb.from (a := 1) (by omega) (by omega)
      have hz0 : (cutS base (some 1) none).cps.toList[0]? = some (lt1 (c % 26 + 3)) := by
        rw [cutP_from (by omega), List.getElem?_drop, hbk _ (by decide)]
        rfl
      have nd1 : xs.Nodup := nodup_P (fun x => (x.length : Int) - 1) fun i x h => by rw [(hx i x h).1.1]; omega
      refine ⟨i4, xs ++ [cutS base (some 1) none], rfl, ?_, by simp [hl], ?_, fun x hx' => ?_⟩
      · rw [List.map_append]; exact o4.head
      · refine List.nodup_append.mpr ⟨nd1, by simp, fun a ha b hb2 => ?_⟩
        rw [List.mem_singleton.mp hb2]
        rintro rfl
        obtain ⟨i, hi⟩ := List.mem_iff_getElem?.mp ha
        have h2 := (hx i _ hi).2.1
        rw [hz0] at h2
        exact lt1_ne26 (Option.some.inj h2) (k := 3) (by omega) (by decide)
      · rcases List.mem_append.mp hx' with z | z
        · obtain ⟨i, hi⟩ := List.mem_iff_getElem?.mp z
          obtain ⟨e1, _, e2⟩ := hx i x hi
          exact e1.nm (by omega) (by omega)
        · rw [List.mem_singleton.mp z]
          exact hz.nm (by decide) (by decide)
    · walk_at "go"
      refine o_comp (fun k y => ∃ x, y = .str x ∧ Ls 1 x ∧ x.cps.toList[0]? = some (lt1 (c % 26 + 5 * (0 + (k : Int))))) o1.none (by simp) (fun _ _ => rfl) ?_ ?_
      · intro i d h' hd _
        obtain ⟨hi, rfl⟩ := rangeD_get hd
        have hi' : i < 9 := hi
        refine ⟨_, rfl, ?_⟩
        walk_at "go"
        exact w_ltr1 ⟨rfl, _, rfl, l1_ls _, rfl⟩
      · intro ys hy hp i2 h2 o2
        obtain ⟨xs, rfl, hx⟩ := strs_P (S := fun k x => Ls 1 x ∧ x.cps.toList[0]? = some (lt1 (c % 26 + 5 * (0 + (k : Int))))) hp
        have hl : xs.length = 9 := by simpa using hy
        refine ⟨i2, xs, rfl, o2, hl, nodup_P2 (fun x => x.cps.toList[0]?) (fun i => some (lt1 (c % 26 + 5 * (0 + (i : Int))))) (fun i x h => (hx i x h).2) fun i j hij hj e => ?_, fun x hx' => ?_⟩
        · exact lt1_ne26 (Option.some.inj e) (k := 5 * ((i : Int) - j)) (by omega) (by omega)
        · obtain ⟨i, hi⟩ := List.mem_iff_getElem?.mp hx'
          exact (hx i x hi).1.nm (by omega) (by omega)
end
section
open PySem L2

/-! items and turners drawn -/
def It.okN : Nat → It → Prop
  | _, .hole => True
  | 0, .nd _ _ => False
  | n + 1, .nd x l => Nm x ∧ l.length ≤ 3 ∧ ∀ i ∈ l, i.okN n
def bI72 : Nat → Nat
  | 0 => 1
  | n + 1 => 13 + 3 * bI72 n
theorem sum_le72 {b : Nat} : ∀ {l : List It}, (∀ i ∈ l, (shI72 i).length ≤ b) → (l.map fun i => (shI72 i).length).sum ≤ l.length * b
  | [], _ => by simp
  | i :: l, h => by
    rw [List.map_cons, List.sum_cons, List.length_cons, Nat.succ_mul]
    have := h i List.mem_cons_self
    have := sum_le72 fun j hj => h j (List.mem_cons_of_mem _ hj)
    omega
theorem shL_le72 (l : List It) : (shL72 l).length ≤ (l.map fun i => (shI72 i).length).sum + l.length := by
  cases l with
  | nil => rw [shL72]; simp
  | cons i l => rw [shL72, List.length_append, shT_len72, List.map_cons, List.sum_cons, List.length_cons]; omega
theorem pool_at72 {ns : List Str} (hl : ns.length = 9) {z : Int} (h0 : 0 ≤ z) (h1 : z < 9) : ∃ x, x = (ns[z.toNat]?).getD ⟨#[]⟩ ∧ x ∈ ns ∧ atI (ns.map D.str) z = some (.str x) := by
  obtain ⟨k, rfl⟩ := Int.eq_ofNat_of_zero_le h0
  have hk : k < ns.length := by omega
  have e : ns[k]? = some ns[k] := List.getElem?_eq_some_iff.mpr ⟨hk, rfl⟩
  refine ⟨ns[k], by rw [Int.toNat_natCast, e]; rfl, List.getElem_mem hk, ?_⟩
  exact atI_at (by rw [List.getElem?_map, e]; rfl)
def nmAt72 (ns : List Str) (s : Int) (j : Nat) : Str := (ns[((s + 2 * (j : Int)) % 9).toNat]?).getD ⟨#[]⟩
def cD72 (ns : List Int) (j : Nat) : Int := (ns[j]?).getD 0
theorem c_cell72 {ns : List Int} (hb : ∀ z ∈ ns, Cell z) {h : MH} {i : Nat} (hl : getL h i = some (ns.map D.int)) {k : Int} (h0 : 0 ≤ k) : Sat (m_cell_at_2c4cb [.ref i, .int k] h) (fun d h' => h' = h ∧ ∃ c, d = .int c ∧ Cell c ∧ c = cD72 ns k.toNat) noX := by
  walk_at "fn"
  refine br_d (fun c => ?_) (fun c => ?_)
  · obtain ⟨d, e1, e2⟩ := atI_in (l := ns.map D.int) h0 (by simpa using c)
    rw [List.getElem?_map, Option.map_eq_some_iff] at e2
    obtain ⟨z, e3, rfl⟩ := e2
    walk_at "go"
    exact ⟨rfl, z, rfl, hb z (List.mem_of_getElem? e3), by rw [cD72, e3]; rfl⟩
  · walk_at "go"
    exact ⟨rfl, 0, rfl, show Builtin.Int.intBits 0 ≤ 1048576 by decide, by rw [cD72, List.getElem?_eq_none (by omega)]; rfl⟩
end
section
open PySem L2
end
section
open PySem L2

theorem same_it72 : ∀ (t : Nat) (i : It) (h : MH), i.nms → 2 * i.dp + 1 ≤ t → (shI72 i).length ≤ 4000 → Sat (m_same_3d8da t [i.toD, i.toD] h) (okT h) noX
  | 0, _, _, _, h, _ => by omega
  | t + 1, .hole, h, _, _, _ => by
    rw [It.toD]
    exact same_str
  | 1, .nd x l, _, _, h, _ => by rw [It.dp] at h; omega
  | t + 2, .nd x l, h, hn, hd, hl => by
    rw [It.dp] at hd
    rw [it_nd]
    refine same_all (by simp) fun a ha h' => ?_
    simp only [List.mem_cons, List.not_mem_nil, or_false] at ha
    rcases ha with rfl | rfl
    · exact same_str
    · cases l with
      | nil => exact same_all (by simp) fun a ha => by simp at ha
      | cons j l =>
        rw [shI72, shB_ne72 (by simp)] at hl
        simp only [List.length_append, List.length_cons] at hl
        generalize j :: l = m at *
        have hs := shL_sum72 m
        refine same_all (by rw [List.length_map]; omega) fun a ha h'' => ?_
        obtain ⟨k, hk, rfl⟩ := List.mem_map.mp ha
        have := dps_mem72 hk
        have := shL_mem72 hk
        exact same_it72 t k h'' (nmss_iff72.mp hn.2 k hk) (by omega) (by omega)
theorem rD_it72 (p : Str × List It) : rD p = (It.nd p.1 p.2).toD := by rw [it_nd]; rfl
/-! the turner written -/
def shN72 (ps : TRl) : List Nat := TL.joinL [59, 32] (ps.map shR72)
theorem sR_semb72 : Str.ofString "; " = mS [59, 32] := by decide +kernel
theorem sR_sem72 : Str.ofString ";" = mS [59] := by decide +kernel
theorem join_S72 (a : List Nat) (ys : List (List Nat)) : Txt.join (mS a) (ys.map mS) = mS (TL.joinL a ys) := SX.join_S a ys
theorem shR_len72 {p : Str × List It} (P : RW72 p) : (shR72 p).length ≤ 12 + (shL72 p.2).length ∧ (shL72 p.2).length ≤ (shR72 p).length := by
  have := P.nm.2.1
  rw [str_len] at this
  unfold shR72
  rw [List.length_append]
  split
  · rename_i e
    rw [e, shL72]
    simp only [List.length_cons, List.length_nil]
    omega
  · simp only [List.length_cons, List.length_nil]
    omega
theorem sumR_len72 : ∀ {ps : TRl}, (∀ p ∈ ps, RW72 p ∧ (shL72 p.2).length ≤ 100000) → ((ps.map shR72).map List.length).sum ≤ ps.length * 100012
  | [], _ => by simp
  | p :: ps, h => by
    rw [List.map_cons, List.map_cons, List.sum_cons, List.length_cons, Nat.succ_mul]
    have h1 := h p List.mem_cons_self
    have h2 := shR_len72 h1.1
    have h3 := sumR_len72 fun q hq => h q (List.mem_cons_of_mem _ hq)
    omega
theorem w_joinN72 {ps : TRl} {i : Nat} {h : MH} {Q : D → MH → Prop} {E : XE} (P : ∀ p ∈ ps, RW72 p ∧ (shL72 p.2).length ≤ 100000) (h9 : ps.length ≤ 9) (e : getL h i = some ((ps.map wR72).map .str)) (q : Q (.str (mS (shN72 ps))) h) : Sat (dJoin (.str (Str.ofString "; ")) [.ref i] h) Q E := by
  have hs := sumR_len72 P
  have e1 : ps.map wR72 = (ps.map shR72).map mS := by rw [List.map_map]; rfl
  have e2 : ((ps.map wR72).map (·.length)) = (ps.map shR72).map List.length := by
    rw [e1, List.map_map]
    exact List.map_congr_left fun x _ => mS_len x
  refine w_join (x := Str.ofString "; ") e ?_ ?_
  · rw [e2, sR_semb72, mS_len, List.length_map]
    simp only [List.length_cons, List.length_nil]
    have : ps.length * 100012 ≤ 9 * 100012 := Nat.mul_le_mul_right _ h9
    omega
  · rw [e1, sR_semb72, join_S72]
    exact q
theorem k_texts72 {ps : TRl} (P : ∀ p ∈ ps, RW72 p ∧ (shL72 p.2).length ≤ 100000) {te : ME} {ρ : Slots} {n : Nat} {h : MH} {Q : D → MH → Prop} {E : XE} (h9 : ps.length ≤ 9)
    (st : ∀ p ∈ ps, ∀ h', ∃ ρ1, mgName n (rD p) ρ = some ρ1 ∧ Sat (te ρ1 h') (fun y h2 => h' <+: h2 ∧ y = .str (wR72 p)) noX)
    (q : ∀ c h', Own h h' [(c, (ps.map wR72).map .str)] → Q (.ref c) h') : Sat (lcGo (fun _ => true) (mgName n) mYes te h.length ρ (ps.map rD) (h ++ [.lst []])) Q E := by
  refine o_compS (σ := Unit) (fun _ => []) (fun k acc _ => acc = ((ps.take k).map wR72).map .str) (s0 := ()) (Own.nil h) rfl (by rw [List.length_map]; omega) (fun _ _ _ _ _ => rfl) ?_ ?_
  · rintro i d acc _ c h2 hd hai hI ow
    rw [List.getElem?_map, Option.map_eq_some_iff] at hd
    obtain ⟨p, ep, rfl⟩ := hd
    obtain ⟨ρ1, e1, st1⟩ := st p (List.mem_of_getElem? ep) h2
    refine ⟨ρ1, e1, st1.mono ?_⟩
    rintro y h3 ⟨p3, rfl⟩
    refine ⟨(), ow.ext p3, ?_⟩
    rw [hI, take_s7 ep, List.map_append, List.map_append]
    rfl
  · rintro acc _ c h2 hai hI ow
    rw [List.length_map, List.take_length] at hI
    subst hI
    exact q c h2 ow
/-! both readings -/
end
section
open PySem L2
def tl72 : MS :=
 (mSeq (mAsg 3 (mLc (mIter (mVar 2)) (mgName 9) (mYes) (mCall (m_rule_shown_18506) (mCons (mVar 9) (mNil))) [9]))
 (mSeq (mIf (mB (mBin dGt (mCall dLen (mCons (mMeth isStrD dJoin (mC (.str (Str.ofString "; "))) (mCons (mVar 3) (mNil))) (mNil))) (mC (.int 2900))))
 (mRet (mC (.bl true)))
 (mSkip))
 (mSeq (mAsg 4 (mCall (m_show_turner_2abbc) (mCons (mVar 2) (mNil))))
 (mSeq (mIf (mOr (mNot (mB (mIsi "str" (mVar 4)))) (mB (mBin dNe (mVar 4) (mMeth isStrD dJoin (mC (.str (Str.ofString "; "))) (mCons (mVar 3) (mNil))))))
 (mRet (mC (.bl false)))
 (mSkip))
 (mSeq (mAsg 5 (mLst (mNil)))
 (mSeq (mAsg 6 (mCall (m_tape_92891) (mCons (mCall (m_cell_at_2c4cb) (mCons (mVar 0) (mCons (mC (.int 12)) (mNil)))) (mCons (mC (.int 20)) (mNil)))))
 (mSeq (mFor (mIter (mVar 3)) (mgName 7)
 (mDrop (mMeth isListD dAppend (mVar 5) (mCons (mBin dAdd (mBin dAdd (mBin dMul (mC (.str (Str.ofString " "))) (mCall (m_next_fea17) (mCons (mVar 6) (mCons (mC (.int 4)) (mNil))))) (mVar 7)) (mBin dMul (mC (.str (Str.ofString " "))) (mCall (m_next_fea17) (mCons (mVar 6) (mCons (mC (.int 4)) (mNil)))))) (mNil)))))
 (mSeq (mIf (mOr (mNot (mB (mCall (m_same_3d8da 100) (mCons (mCall (m_read_turner_c16d3) (mCons (mVar 4) (mNil))) (mCons (mVar 2) (mNil)))))) (mNot (mB (mCall (m_same_3d8da 100) (mCons (mCall (m_read_turner_c16d3) (mCons (mMeth isStrD dJoin (mC (.str (Str.ofString ";"))) (mCons (mVar 5) (mNil))) (mNil))) (mCons (mVar 2) (mNil)))))))
 (mRet (mC (.bl false)))
 (mSkip))
 (mRet (mCall (m_same_3d8da 100) (mCons (mCall (m_read_turner_c16d3) (mCons (mBin dMul (mC (.str (Str.ofString " "))) (mBin dMod (mCall (m_cell_at_2c4cb) (mCons (mVar 0) (mCons (mC (.int 1)) (mNil)))) (mC (.int 5)))) (mNil))) (mCons (mTup (mNil)) (mNil)))))))))))))
def Tl72 (ns : List Str) (sc : List Int) (ps : TRl) : Prop := (∀ p ∈ ps, RW72 p ∧ (shL72 p.2).length ≤ 100000) ∧ ps.length ≤ 9 ∧ (ps.map (·.1)).Nodup
end
section
open PySem L2

local macro_rules | `(tactic| walk_at "lk") => `(tactic| first | with_reducible exact lkA | (apply lkB; decide +kernel; walk_at "lk"))
local macro_rules | `(tactic| walk_at "mk") => `(tactic| first | with_reducible exact mkA | (apply mkB; decide +kernel; walk_at "mk"))
local macro_rules | `(tactic| walk_at "fk") => `(tactic| first | with_reducible exact fkA | exact fkN | (apply fkB; decide +kernel; walk_at "fk"))
local macro_rules | `(tactic| walk_at "cs") => `(tactic| first | exact List.mem_cons_self | (apply List.mem_cons_of_mem; walk_at "cs"))
local macro_rules | `(tactic| walk_at "w") => `(tactic| first
  | with_reducible refine w_fld ?_
  | ((with_reducible refine w_fldK (c := ?_) (fs := ?_) (v := ?_) ?_ ?_ ?_ ?_); rotate_left; rotate_left; rotate_left; (with_reducible assumption); (walk_at "cs"); (walk_at "fk"))
  | with_reducible refine w_setFld ?_
  | with_reducible refine w_new ?_
  | with_reducible refine w_methI ?_
  | ((with_reducible refine w_methK (c := ?_) (fs := ?_) (F := ?_) ?_ ?_ ?_ ?_); rotate_left; rotate_left; rotate_left; (with_reducible assumption); (walk_at "mk"); (walk_at "fk"))
  | with_reducible refine w_isC ?_
  | ((with_reducible refine w_isCK (c := ?_) (fs := ?_) (k := ?_) ?_ ?_ ?_); rotate_left; rotate_left; rotate_left; (with_reducible assumption); (walk_at "lk"))
  | with_reducible refine w_callD ?_
  | with_reducible refine w_mDSet ?_
  | with_reducible refine w_eq (nN_non _) ?_
  | with_reducible refine w_eq (nN_int _ _) ?_
  | with_reducible refine w_eq (nN_tup _ _) ?_
  | with_reducible refine w_eq (nN_ref _ _) ?_
  | with_reducible refine w_eq (iN_non _) ?_
  | with_reducible refine w_eq (iN_int _ _) ?_
  | with_reducible refine w_eq (iN_tup _ _) ?_
  | with_reducible refine w_eq (iN_ref _ _) ?_)
theorem pre_sound73 {S l : List Nat} (h : TL.pre S l = true) : l = S ++ l.drop S.length := by
  unfold TL.pre at h
  have := eq_of_beq h
  conv => lhs; rw [← List.take_append_drop S.length l]
  rw [this]
theorem par_sound73 {S : List Nat} : ∀ (l acc p q : List Nat), TL.par S acc l = some (p, q) → ∃ p', p = acc ++ p' ∧ l = p' ++ (S ++ q)
  | [], acc, p, q, e => by cases e
  | c :: r, acc, p, q, e => by
    cases h : TL.pre S (c :: r) with
    | true =>
      rw [TL.par_hit h] at e
      cases e
      exact ⟨[], by simp, by rw [List.nil_append]; exact pre_sound73 h⟩
    | false =>
      rw [TL.par_miss h] at e
      obtain ⟨p', e1, e2⟩ := par_sound73 r _ p q e
      exact ⟨c :: p', by rw [e1]; simp, by rw [e2]; rfl⟩
def itsD73 : Option (List It) → D
  | none => .non
  | some l => .tup (l.map It.toD)
theorem k_readitems73 {l : List Nat} (hc : l.count 40 < 34) (hl : l.length ≤ 90000) {h : MH} :
    Sat (m_read_items_0cc23 [.str (mS l)] h) (fun y h' => h <+: h' ∧ y = itsD73 (its73 34 l)) noX := by
  have hT : (mS l).length ≤ 90000 := by rw [mS_len]; exact hl
  have ho := (pIt_out73 34).2 (l.length + 1) l hc (by omega)
  unfold its73
  generalize eT : mS l = T at *
  have eTl : T.cps.toList = l := by rw [← eT, mS_cps]
  have e0 : (h ++ [MO.ins (Str.ofString "ItemReader") []])[h.length]? = some (.ins (Str.ofString "ItemReader") []) := get_new
  unfold m_read_items_0cc23 m_ItemReader___init___aeb78
  walk_at "fn"
  walk_at "fn"
  refine w_setFldK e0 (by simp) (by simp) ?_
  rw [List.set_append_right _ _ (Nat.le_refl _), Nat.sub_self]
  simp only [List.set_cons_zero, putFD]
  walk_at "go"
  refine w_setFldK get_new (by simp) (by simp) ?_
  rw [List.set_append_right _ _ (Nat.le_refl _), Nat.sub_self]
  simp only [List.set_cons_zero]
  have ep : putFD (Str.ofString "at") (.int 0) [(Str.ofString "text", .str T)] = rdF T 0 := by
    rw [putFD, if_neg (neS "text" "at"), putFD]; rfl
  rw [ep]
  refine ⟨by trivial, ?_⟩
  have x1 : Rd72 h.length T (h ++ [MO.ins (Str.ofString "ItemReader") (rdF T 0)]) l := ⟨0, get_new, Nat.zero_le _, eTl⟩
  have l1 : (h ++ [MO.ins (Str.ofString "ItemReader") (rdF T 0)]).length = h.length + 1 := by simp
  have p1 : h <+: h ++ [MO.ins (Str.ofString "ItemReader") (rdF T 0)] := List.prefix_append _ _
  have c1 : (h ++ [MO.ins (Str.ofString "ItemReader") (rdF T 0)])[h.length]? = some (.ins (Str.ofString "ItemReader") (rdF T 0)) := get_new
  generalize h ++ [MO.ins (Str.ofString "ItemReader") (rdF T 0)] = h1 at *
  walk_at "go"
  refine ((k_read72 hT 34).2 70 h1 l (by omega) x1 ho).mono ?_
  rintro y h2 ⟨k2, l2, hy⟩
  have hpre := kr_pre72 p1 k2
  cases hr : pRow72 (pIt72 34) (l.length + 1) l with
  | out => exact (ho hr).elim
  | no =>
    rw [hr] at hy
    obtain ⟨rfl, q, x2⟩ := hy
    obtain ⟨a2, e2, e3, e4⟩ := x2
    walk_at "go"
    refine br_d (fun q => ?_) (fun q => ?_)
    · walk_at "go"
      exact ⟨hpre, rfl⟩
    · walk_at "go"
      exact ⟨hpre, rfl⟩
  | ok w =>
    obtain ⟨its, q⟩ := w
    rw [hr] at hy
    obtain ⟨rfl, x2⟩ := hy
    obtain ⟨a2, e2, e3, e4⟩ := x2
    have hql := congrArg List.length e4
    rw [List.length_drop] at hql
    have hTl := str_len T
    cases q with
    | nil =>
      rw [List.length_nil] at hql
      walk_at "go"
      exact ⟨hpre, rfl⟩
    | cons d q =>
      rw [List.length_cons] at hql
      walk_at "go"
      exact ⟨hpre, rfl⟩
/-! a rule -/
def rule73 (l : List Nat) : Option (Str × List It) :=
  if (1 ≤ (l.takeWhile isL72).length ∧ (l.takeWhile isL72).length ≤ 8) ∧ (l.dropWhile isL72).take 3 = [32, 45, 62] then
    match (l.dropWhile isL72).drop 3 with
    | [] => some (mS (l.takeWhile isL72), [])
    | c :: r => if c = 32 then (its73 34 r).map fun its => (mS (l.takeWhile isL72), its) else none
  else none
def rlD73 : Option (Str × List It) → D
  | none => .non
  | some p => rD p
theorem nm_tw73 {l : List Nat} (h : 1 ≤ (l.takeWhile isL72).length ∧ (l.takeWhile isL72).length ≤ 8) : Nm (mS (l.takeWhile isL72)) := by
  refine ⟨by rw [mS_len]; exact h.1, by rw [mS_len]; exact h.2, fun c hc => ?_⟩
  rw [mS_cps] at hc
  have := tw_mem72 c hc
  unfold isL72 at this
  unfold Ltr
  exact of_decide_eq_true this
theorem sw73 {c : Nat} {r : List Nat} : Txt.startswith (mS (c :: r)) (Str.ofString " ") = decide (c = 32) := by
  rw [sR_b72]
  unfold Txt.startswith
  have h1 : decide (0 + (mS [32]).length ≤ (mS (c :: r)).length) = true := decide_eq_true (by rw [mS_len, mS_len]; simp)
  rw [h1, Bool.true_and]
  unfold Builtin.Str.subAt
  have e : (mS (c :: r)).cps.extract 0 (0 + (mS [32]).length) = #[c] := by
    refine Array.toList_inj.mp ?_
    rw [Array.toList_extract]
    rfl
  rw [e]
  show (#[c] == #[32]) = _
  by_cases h : c = 32
  · subst h; rfl
  · rw [decide_eq_false h]
    refine Bool.eq_false_iff.mpr fun z => h ?_
    have := congrArg Array.toList (eq_of_beq z)
    exact (List.cons.inj this).1
theorem k_readturn73 {l : List Nat} (hc : l.count 40 < 34) (hl : l.length ≤ 80000) {h : MH} :
    Sat (m_read_turn_2bcea [.str (mS l)] h) (fun y h' => h <+: h' ∧ y = rlD73 (rule73 l)) noX := by
  have tdw := List.takeWhile_append_dropWhile (p := isL72) (l := l)
  walk_at "fn"
  refine ⟨isStrD_str _ _, ?_⟩
  walk_at "go"
  refine w_part (x := mS l) (y := Str.ofString " ->") (by rw [sR_ar72]; rfl) (by rw [mS_len]; omega) ?_
  by_cases hs : (1 ≤ (l.takeWhile isL72).length ∧ (l.takeWhile isL72).length ≤ 8) ∧ (l.dropWhile isL72).take 3 = [32, 45, 62]
  · have hw := nm_tw73 hs.1
    have hx32 : 32 ∉ l.takeWhile isL72 := fun hc => by
      have := tw_mem72 _ hc
      revert this
      decide
    have er : rule73 l = (match (l.dropWhile isL72).drop 3 with
      | [] => some (mS (l.takeWhile isL72), [])
      | c :: r => if c = 32 then (its73 34 r).map fun its => (mS (l.takeWhile isL72), its) else none) := by rw [rule73, if_pos hs]
    have el : l = l.takeWhile isL72 ++ ([32, 45, 62] ++ (l.dropWhile isL72).drop 3) := by
      conv => lhs; rw [← tdw, ← List.take_append_drop 3 (l.dropWhile isL72), hs.2]
    have hlen := congrArg List.length el
    rw [List.length_append, List.length_append] at hlen
    have hcnt : ((l.dropWhile isL72).drop 3).count 40 ≤ l.count 40 := ((List.drop_suffix _ _).trans (List.dropWhile_suffix _)).sublist.count_le 40
    rw [er]
    have hlw := hs.1
    generalize (l.dropWhile isL72).drop 3 = rest at *
    generalize hx : l.takeWhile isL72 = x at *
    have epart : Txt.partition (mS l) (Str.ofString " ->") = (mS x, mS [32, 45, 62], mS rest) := by
      have := part_72 (a := l) (b := [32, 45, 62]) (by simp) (by rw [el]; exact SX.par_head (c := 32) (sep := [45, 62]) rest hx32)
      rw [sR_ar72, this]
    rw [epart]
    dsimp only
    refine ⟨_, rfl, ?_⟩
    walk_at "go"
    refine (k_isname72 (by rw [mS_len]; omega)).mono ?_
    rintro y h2 ⟨rfl, v, rfl, hv⟩
    obtain rfl : v = true := hv.mpr hw
    walk_at "go"
    refine br_d (fun q => ?_) (fun q => ?_)
    · exfalso
      rw [show Str.ofString "" = mS [] from rfl, mS_inj] at q
      cases q
    walk_at "go"
    cases rest with
    | nil =>
      refine br_d (fun q => ?_) (fun q => (q rfl).elim)
      walk_at "go"
      exact ⟨List.prefix_rfl, rfl⟩
    | cons c r =>
      refine br_d (fun q => ?_) (fun q => ?_)
      · exfalso
        rw [show Str.ofString "" = mS [] from rfl, mS_inj] at q
        cases q
      walk_at "go"
      refine ⟨isStrD_str _ _, ?_⟩
      walk_at "go"
      refine w_startsw ?_
      rw [sw73]
      by_cases h32 : c = 32
      · rw [decide_eq_true h32, if_pos h32]
        have ecut : cutS (mS (c :: r)) (some (1 : Int)) none = mS r := by
          have := SX.slice_from (a := c :: r) (i := 1) (by decide)
          rw [C8.cutS_slice]
          exact this
        have hcr : r.count 40 ≤ (c :: r).count 40 := (List.sublist_cons_self _ _).count_le 40
        simp only [List.length_cons, List.length_nil] at hlen
        walk_at "go"
        refine w_slS (by rw [mS_len, List.length_cons]; omega) ?_
        rw [ecut]
        walk_at "go"
        refine (k_readitems73 (by omega) (by omega)).mono ?_
        rintro y h3 ⟨p3, rfl⟩
        cases its73 34 r with
        | none =>
          rw [itsD73]
          walk_at "go"
          exact ⟨p3, rfl⟩
        | some its =>
          rw [itsD73]
          walk_at "go"
          exact ⟨p3, rfl⟩
      · rw [decide_eq_false h32, if_neg h32]
        walk_at "go"
        exact ⟨List.prefix_rfl, rfl⟩
  · have er : rule73 l = none := by rw [rule73, if_neg hs]
    rw [er]
    cases hp : TL.par [32, 45, 62] [] l with
    | none =>
      have epart : Txt.partition (mS l) (Str.ofString " ->") = (mS l, mS [], mS []) := by
        rw [sR_ar72]
        exact SX.partition_none (by simp) hp
      rw [epart]
      refine ⟨_, rfl, ?_⟩
      walk_at "go"
      refine (k_isname72 (by rw [mS_len]; omega)).mono ?_
      rintro y h2 ⟨rfl, v, rfl, hv⟩
      cases v with
      | false =>
        walk_at "go"
        exact ⟨List.prefix_rfl, rfl⟩
      | true =>
        walk_at "go"
        exact ⟨List.prefix_rfl, rfl⟩
    | some w =>
      obtain ⟨p, q⟩ := w
      have epart : Txt.partition (mS l) (Str.ofString " ->") = (mS p, mS [32, 45, 62], mS q) := by
        rw [sR_ar72]
        exact part_72 (by simp) hp
      obtain ⟨p', e1, e2⟩ := par_sound73 _ _ _ _ hp
      rw [List.nil_append] at e1
      subst e1
      have hlen := congrArg List.length e2
      rw [List.length_append] at hlen
      rw [epart]
      refine ⟨_, rfl, ?_⟩
      walk_at "go"
      refine (k_isname72 (by rw [mS_len]; omega)).mono ?_
      rintro y h2 ⟨rfl, v, rfl, hv⟩
      cases v with
      | false =>
        walk_at "go"
        exact ⟨List.prefix_rfl, rfl⟩
      | true =>
        exfalso
        have hw := hv.mp rfl
        obtain ⟨t1, t2⟩ := takeW_nm72 (x := mS p) hw (r := [32, 45, 62] ++ q) fun c r' e => by cases e; decide
        rw [mS_cps, ← e2] at t1 t2
        refine hs ⟨?_, by rw [t2]; rfl⟩
        rw [t1]
        have h1 := hw.1
        have h2 := hw.2.1
        rw [mS_len] at h1 h2
        exact ⟨h1, h2⟩
end
section
open PySem L2
def m_name_end_abafc : List D → MH → R D := mFun 2 2
 (mSeq (mWhile 100000 (mAnd (mB (mBin dLt (mVar 1) (mCall dLen (mCons (mVar 0) (mNil))))) (mB (mBin dIn (mBin dIx (mVar 0) (mVar 1)) (mC (.str (Str.ofString "abcdefghijklmnopqrstuvwxyz"))))))
 (mAsg 1 (mBin dAdd (mVar 1) (mC (.int 1)))))
 (mRet (mVar 1)))
def m_items_of_d6f25 : List D → MH → R D := mFun 1 8
 (mSeq (mAsg 1 (mLst (mCons (mLst (mNil)) (mNil))))
 (mSeq (mAsg 2 (mLst (mNil)))
 (mSeq (mAsg 3 (mC (.bl true)))
 (mSeq (mAsg 4 (mC (.int 0)))
 (mSeq (mWhile 100000 (mB (mBin dLt (mVar 4) (mCall dLen (mCons (mVar 0) (mNil)))))
 (mSeq (mAsg 5 (mBin dIx (mVar 0) (mVar 4)))
 (mSeq (mAsg 6 (mCall (m_name_end_abafc) (mCons (mVar 0) (mCons (mVar 4) (mNil)))))
 (mSeq (mIf (mAnd (mB (mVar 3)) (mB (mBin dGt (mVar 6) (mVar 4))))
 (mSeq (mIf (mB (mBin dGt (mBin dSub (mVar 6) (mVar 4)) (mC (.int 8))))
 (mRet (mC .non))
 (mSkip))
 (mSeq (mAsg 3 (mBin dEq (mSl (mVar 0) (mSome (mVar 6)) (mSome (mBin dAdd (mVar 6) (mC (.int 1))))) (mC (.str (Str.ofString "(")))))
 (mSeq (mIf (mB (mVar 3))
 (mSeq (mDrop (mMeth isListD dAppend (mVar 2) (mCons (mSl (mVar 0) (mSome (mVar 4)) (mSome (mVar 6))) (mNil))))
 (mDrop (mMeth isListD dAppend (mVar 1) (mCons (mLst (mNil)) (mNil)))))
 (mDrop (mMeth isListD dAppend (mBin dIx (mVar 1) (mUn dNeg (mC (.int 1)))) (mCons (mTup (mCons (mSl (mVar 0) (mSome (mVar 4)) (mSome (mVar 6))) (mCons (mTup (mNil)) (mNil)))) (mNil)))))
 (mAsg 4 (mBin dSub (mBin dAdd (mVar 6) (mCall dInt (mCons (mVar 3) (mNil)))) (mC (.int 1)))))))
 (mIf (mAnd (mB (mVar 3)) (mB (mBin dEq (mVar 5) (mC (.str (Str.ofString "*"))))))
 (mSeq (mDrop (mMeth isListD dAppend (mBin dIx (mVar 1) (mUn dNeg (mC (.int 1)))) (mCons (mC (.str (Str.ofString "*"))) (mNil))))
 (mAsg 3 (mC (.bl false))))
 (mIf (mAnd (mNot (mB (mVar 3))) (mAnd (mB (mBin dEq (mVar 5) (mC (.str (Str.ofString ")"))))) (mB (mBin dGt (mCall dLen (mCons (mVar 2) (mNil))) (mC (.int 0))))))
 (mSeq (mAsg 7 (mMeth isListD dPop (mVar 1) (mNil)))
 (mDrop (mMeth isListD dAppend (mBin dIx (mVar 1) (mUn dNeg (mC (.int 1)))) (mCons (mTup (mCons (mMeth isListD dPop (mVar 2) (mNil)) (mCons (mCall dTuple (mCons (mVar 7) (mNil))) (mNil)))) (mNil)))))
 (mIf (mAnd (mNot (mB (mVar 3))) (mB (mBin dEq (mVar 5) (mC (.str (Str.ofString " "))))))
 (mAsg 3 (mC (.bl true)))
 (mRet (mC .non))))))
 (mAsg 4 (mBin dAdd (mVar 4) (mC (.int 1))))))))
 (mSeq (mIf (mOr (mB (mVar 3)) (mB (mBin dGt (mCall dLen (mCons (mVar 2) (mNil))) (mC (.int 0)))))
 (mRet (mC .non))
 (mSkip))
 (mRet (mCall dTuple (mCons (mBin dIx (mVar 1) (mC (.int 0))) (mNil))))))))))
def m_rule_of_19f7e : List D → MH → R D := mFun 1 4
 (mSeq (mAsg 1 (mCall (m_name_end_abafc) (mCons (mVar 0) (mCons (mC (.int 0)) (mNil)))))
 (mSeq (mIf (mOr (mB (mBin dEq (mVar 1) (mC (.int 0)))) (mOr (mB (mBin dGt (mVar 1) (mC (.int 8)))) (mB (mBin dNe (mSl (mVar 0) (mSome (mVar 1)) (mSome (mBin dAdd (mVar 1) (mC (.int 3))))) (mC (.str (Str.ofString " ->")))))))
 (mRet (mC .non))
 (mSkip))
 (mSeq (mAsg 2 (mSl (mVar 0) (mSome (mBin dAdd (mVar 1) (mC (.int 3)))) (mNo)))
 (mSeq (mIf (mB (mBin dEq (mVar 2) (mC (.str (Str.ofString "")))))
 (mRet (mTup (mCons (mSl (mVar 0) (mNo) (mSome (mVar 1))) (mCons (mTup (mNil)) (mNil)))))
 (mSkip))
 (mSeq (mIf (mB (mBin dNe (mBin dIx (mVar 2) (mC (.int 0))) (mC (.str (Str.ofString " ")))))
 (mRet (mC .non))
 (mSkip))
 (mSeq (mAsg 3 (mCall (m_items_of_d6f25) (mCons (mSl (mVar 2) (mSome (mC (.int 1))) (mNo)) (mNil))))
 (mSeq (mIf (mB (mBin dIsN (mVar 3) (mC .non)))
 (mRet (mC .non))
 (mSkip))
 (mRet (mTup (mCons (mSl (mVar 0) (mNo) (mSome (mVar 1))) (mCons (mVar 3) (mNil))))))))))))
def m_read_e7a1e : List D → MH → R D := mFun 1 7
 (mSeq (mAsg 1 (mLc (mIter (mMeth isStrD dSplit (mVar 0) (mCons (mC (.str (Str.ofString ";"))) (mNil)))) (mgName 5) (mYes) (mMeth isStrD dStripC (mVar 5) (mCons (mC (.str (Str.ofString " "))) (mNil))) [5]))
 (mSeq (mIf (mB (mBin dEq (mVar 1) (mLst (mCons (mC (.str (Str.ofString ""))) (mNil)))))
 (mRet (mTup (mNil)))
 (mSkip))
 (mSeq (mIf (mB (mBin dGt (mCall dLen (mCons (mVar 1) (mNil))) (mC (.int 12))))
 (mRet (mC (.int 12)))
 (mSkip))
 (mSeq (mAsg 2 (mLc (mIter (mVar 1)) (mgName 5) (mYes) (mCall (m_rule_of_19f7e) (mCons (mVar 5) (mNil))) [5]))
 (mSeq (mFor (mRange1 (mCall dLen (mCons (mVar 2) (mNil)))) (mgName 3)
 (mIf (mB (mBin dIsN (mBin dIx (mVar 2) (mVar 3)) (mC .non)))
 (mRet (mVar 3))
 (mSkip)))
 (mSeq (mAsg 4 (mLc (mIter (mVar 2)) (mgName 6) (mYes) (mBin dIx (mVar 6) (mC (.int 0))) [6]))
 (mSeq (mFor (mRange1 (mCall dLen (mCons (mVar 4) (mNil)))) (mgName 3)
 (mIf (mB (mBin dIn (mBin dIx (mVar 4) (mVar 3)) (mSl (mVar 4) (mNo) (mSome (mVar 3)))))
 (mRet (mVar 3))
 (mSkip)))
 (mRet (mCall dTuple (mCons (mVar 2) (mNil)))))))))))
def m_changed_d6066 : List D → MH → R D := mFun 3 8
 (mSeq (mAsg 3 (mLst (mCons (mC (.str (Str.ofString "*"))) (mCons (mC (.str (Str.ofString "("))) (mCons (mC (.str (Str.ofString ")"))) (mCons (mC (.str (Str.ofString " "))) (mCons (mC (.str (Str.ofString "-"))) (mCons (mC (.str (Str.ofString ">"))) (mCons (mC (.str (Str.ofString ";"))) (mCons (mC (.str (Str.ofString "a"))) (mCons (mC (.str (Str.ofString "z"))) (mCons (mC (.str (Str.ofString "A"))) (mCons (mC (.str (Str.ofString "1"))) (mCons (mC (.str (Str.ofString ","))) (mCons (mC (.str (Str.ofString "\n"))) (mCons (mC (.str (Str.ofString "&"))) (mCons (mC (.str (Str.ofString "  "))) (mCons (mC (.str (Str.ofString " * "))) (mCons (mC (.str (Str.ofString "()"))) (mCons (mC (.str (Str.ofString "abcdefghi"))) (mNil)))))))))))))))))))))
 (mSeq (mAsg 4 (mCall (m_next_fea17) (mCons (mVar 1) (mCons (mC (.int 8)) (mNil)))))
 (mSeq (mAsg 5 (mCall (m_next_fea17) (mCons (mVar 1) (mCons (mBin dAdd (mCall dLen (mCons (mVar 0) (mNil))) (mC (.int 1))) (mNil)))))
 (mSeq (mAsg 6 (mBin dIx (mVar 3) (mCall (m_next_fea17) (mCons (mVar 1) (mCons (mC (.int 18)) (mNil))))))
 (mSeq (mIf (mB (mBin dLt (mVar 4) (mC (.int 2))))
 (mRet (mBin dAdd (mSl (mVar 0) (mNo) (mSome (mVar 5))) (mSl (mVar 0) (mSome (mBin dAdd (mVar 5) (mC (.int 1)))) (mNo))))
 (mSkip))
 (mSeq (mIf (mB (mBin dLt (mVar 4) (mC (.int 4))))
 (mRet (mBin dAdd (mBin dAdd (mSl (mVar 0) (mNo) (mSome (mVar 5))) (mVar 6)) (mSl (mVar 0) (mSome (mVar 5)) (mNo))))
 (mSkip))
 (mSeq (mIf (mB (mBin dLt (mVar 4) (mC (.int 6))))
 (mRet (mBin dAdd (mBin dAdd (mSl (mVar 0) (mNo) (mSome (mVar 5))) (mVar 6)) (mSl (mVar 0) (mSome (mBin dAdd (mVar 5) (mC (.int 1)))) (mNo))))
 (mSkip))
 (mSeq (mIf (mB (mBin dEq (mVar 4) (mC (.int 6))))
 (mRet (mBin dAdd (mBin dAdd (mBin dAdd (mVar 0) (mC (.str (Str.ofString "; ")))) (mBin dIx (mVar 2) (mCall (m_next_fea17) (mCons (mVar 1) (mCons (mC (.int 9)) (mNil)))))) (mC (.str (Str.ofString " -> *")))))
 (mSkip))
 (mRet (mBin dAdd (mBin dAdd (mVar 0) (mC (.str (Str.ofString ";")))) (mMeth isStrD dJoin (mC (.str (Str.ofString "; "))) (mCons (mLc (mIter (mSl (mVar 2) (mNo) (mSome (mC (.int 5))))) (mgName 7) (mYes) (mBin dAdd (mVar 7) (mC (.str (Str.ofString " ->")))) [7]) (mNil)))))))))))))
def m_law_b3eeb : List D → MH → R D := mFun 1 11
 (mSeq (mAsg 1 (mCall (m_names_c11ae) (mCons (mCall (m_cell_at_2c4cb) (mCons (mVar 0) (mCons (mC (.int 0)) (mNil)))) (mNil))))
 (mSeq (mAsg 2 (mCall (m_tape_92891) (mCons (mCall (m_cell_at_2c4cb) (mCons (mVar 0) (mCons (mC (.int 1)) (mNil)))) (mCons (mC (.int 20)) (mNil)))))
 (mSeq (mAsg 3 (mCall (m_turner_aa784) (mCons (mVar 0) (mCons (mC (.int 2)) (mCons (mC (.int 8)) (mCons (mVar 1) (mCons (mC (.int 2)) (mNil))))))))
 (mSeq (mAsg 4 (mMeth isStrD dJoin (mC (.str (Str.ofString "; "))) (mCons (mLc (mIter (mVar 3)) (mgName 10) (mYes) (mCall (m_rule_shown_18506) (mCons (mVar 10) (mNil))) [10]) (mNil))))
 (mSeq (mFor (mRange1 (mCall (m_next_fea17) (mCons (mVar 2) (mCons (mC (.int 4)) (mNil))))) (mgName 5)
 (mAsg 4 (mCall (m_changed_d6066) (mCons (mVar 4) (mCons (mVar 2) (mCons (mVar 1) (mNil)))))))
 (mSeq (mAsg 6 (mCall (m_read_e7a1e) (mCons (mVar 4) (mNil))))
 (mSeq (mAsg 7 (mC .non))
 (mSeq (mAsg 8 (mC .non))
 (mSeq (mTryK [((Str.ofString "NoTurner"), true)] 9 7 (mAsg 8 (mCall (m_read_turner_c16d3) (mCons (mVar 4) (mNil)))))
 (mSeq (mIf (mB (mIsi "tuple" (mVar 6)))
 (mRet (mAndV (mBin dIsN (mVar 7) (mC .non)) (mCall (m_same_3d8da 100) (mCons (mVar 8) (mCons (mVar 6) (mNil))))))
 (mSkip))
 (mSeq (mIf (mOr (mB (mBin dIsN (mVar 7) (mC .non))) (mOr (mNot (mB (mIsX [((Str.ofString "NoTurner"), true)] (mVar 7)))) (mNot (mB (mIsX [((Str.ofString "NoTurner"), true)] (mVar 7))))))
 (mRet (mC (.bl false)))
 (mSkip))
 (mRet (mAndV (mNotV (mIsX [((Str.ofString "NoTurner"), false)] (mVar 7))) (mCall (m_same_3d8da 100) (mCons (mXf [(Str.ofString "NoTurner")] (Str.ofString "row") (mVar 7)) (mCons (mVar 6) (mNil)))))))))))))))))
end
section
open PySem L2

local macro_rules | `(tactic| walk_at "lk") => `(tactic| first | with_reducible exact lkA | (apply lkB; decide +kernel; walk_at "lk"))
local macro_rules | `(tactic| walk_at "mk") => `(tactic| first | with_reducible exact mkA | (apply mkB; decide +kernel; walk_at "mk"))
local macro_rules | `(tactic| walk_at "fk") => `(tactic| first | with_reducible exact fkA | exact fkN | (apply fkB; decide +kernel; walk_at "fk"))
local macro_rules | `(tactic| walk_at "cs") => `(tactic| first | exact List.mem_cons_self | (apply List.mem_cons_of_mem; walk_at "cs"))
local macro_rules | `(tactic| walk_at "w") => `(tactic| first
  | with_reducible refine w_fld ?_
  | ((with_reducible refine w_fldK (c := ?_) (fs := ?_) (v := ?_) ?_ ?_ ?_ ?_); rotate_left; rotate_left; rotate_left; (with_reducible assumption); (walk_at "cs"); (walk_at "fk"))
  | with_reducible refine w_setFld ?_
  | with_reducible refine w_new ?_
  | with_reducible refine w_methI ?_
  | ((with_reducible refine w_methK (c := ?_) (fs := ?_) (F := ?_) ?_ ?_ ?_ ?_); rotate_left; rotate_left; rotate_left; (with_reducible assumption); (walk_at "mk"); (walk_at "fk"))
  | with_reducible refine w_isC ?_
  | ((with_reducible refine w_isCK (c := ?_) (fs := ?_) (k := ?_) ?_ ?_ ?_); rotate_left; rotate_left; rotate_left; (with_reducible assumption); (walk_at "lk"))
  | with_reducible refine w_callD ?_
  | with_reducible refine w_mDSet ?_
  | with_reducible refine w_eq (nN_non _) ?_
  | with_reducible refine w_eq (nN_int _ _) ?_
  | with_reducible refine w_eq (nN_tup _ _) ?_
  | with_reducible refine w_eq (nN_ref _ _) ?_
  | with_reducible refine w_eq (iN_non _) ?_
  | with_reducible refine w_eq (iN_int _ _) ?_
  | with_reducible refine w_eq (iN_tup _ _) ?_
  | with_reducible refine w_eq (iN_ref _ _) ?_)
theorem k_nameend73 {l r : List Nat} (hl : l.length ≤ 90000) {k : Nat} (hk : k ≤ l.length) (hr : l.drop k = r) {h : MH} : Sat (m_name_end_abafc [.str (mS l), .int (k : Int)] h) (fun d h' => h' = h ∧ d = .int ((k + (r.takeWhile isL72).length : Nat) : Int)) noX := by
  have hrlen : r.length = l.length - k := by rw [← hr, List.length_drop]
  walk_at "fn"
  refine OS.mono (N := fun ρ h' => ∃ j : Nat, ρ = [some (.str (mS l)), some (.int ((k + j : Nat) : Int))] ∧ h' = h ∧ j = (r.takeWhile isL72).length) ?_ ?_ (fun _ _ z => z) (fun _ _ z => z) (fun _ _ z => z) (fun _ _ _ _ z => z)
  · refine w_while (fun mm ρ h' => ∃ j : Nat, ρ = [some (.str (mS l)), some (.int ((k + j : Nat) : Int))] ∧ h' = h ∧ j ≤ r.length ∧ (∀ d ∈ r.take j, isL72 d = true) ∧ mm = r.length - j) r.length (by omega)
      ⟨0, rfl, rfl, Nat.zero_le _, (fun d hd => by simp at hd), by omega⟩ ?_
    rintro mm ρ h2 ⟨j, rfl, rfl, hj, hlet, rfl⟩
    have ecast : ((k + j : Nat) : Int) + 1 = ((k + (j + 1) : Nat) : Int) := by omega
    have hll : (mS l).length ≤ 1000000 := by rw [mS_len]; omega
    walk_at "go"
    rw [mS_len]
    refine br_d (fun q1 => ?_) (fun q1 => ?_)
    · have hjr : j < r.length := by omega
      have ec : l[k + j]? = some r[j] := by
        have : (l.drop k)[j]? = some r[j] := by rw [hr]; exact List.getElem?_eq_some_iff.mpr ⟨hjr, rfl⟩
        rwa [List.getElem?_drop] at this
      generalize r[j] = c at *
      have erj : r[j]? = some c := by rw [← hr, List.getElem?_drop]; exact ec
      walk_at "go"
      refine w_ixS (by rw [mS_len]; omega) (atI_at (show (mS l).cps.toList[k + j]? = some c by rw [mS_cps]; exact ec)) ?_
      walk_at "go"
      refine w_inL72 ?_
      walk_at "go"
      cases hc : isL72 c with
      | true =>
        walk_at "go"
        rw [ecast]
        refine ⟨r.length - (j + 1), by omega, j + 1, rfl, rfl, by omega, fun d hd => ?_, rfl⟩
        rw [List.take_succ, erj] at hd
        rcases List.mem_append.mp hd with z | z
        · exact hlet d z
        · have : d = c := by simpa using z
          rw [this]; exact hc
      | false =>
        walk_at "go"
        obtain ⟨t1, t2⟩ := tw_at72 hlet erj hc
        exact ⟨j, rfl, rfl, by rw [t1, List.length_take]; omega⟩
    · walk_at "go"
      have hjr : j = r.length := by omega
      rw [hjr, List.take_length] at hlet
      obtain ⟨t1, t2⟩ := tw_all72 hlet
      exact ⟨j, rfl, rfl, by rw [t1, hjr]⟩
  · rintro ρ h2 ⟨j, rfl, rfl, rfl⟩
    walk_at "go"
    exact ⟨rfl, rfl⟩
/-! the law's own reading of items -/
theorem take_tw73 (p : Nat → Bool) : ∀ l : List Nat, l.take (l.takeWhile p).length = l.takeWhile p
  | [] => rfl
  | c :: l => by
    rw [List.takeWhile_cons]
    split
    · rw [List.length_cons, List.take_succ_cons, take_tw73 p l]
    · rfl
theorem w_intB73 {b : Bool} {h : MH} {Q : D → MH → Prop} {E : XE} (q : Q (.int (if b then 1 else 0)) h) : Sat (dInt [.bl b] h) Q E := w_eq (by simp only [dInt]) q
def hd73 (stk : List (Str × List It)) : List D := (stk.reverse.map (·.1)).map .str
def rf73 (rs : List Nat) : List D := rs.reverse.map .ref
def up73 (stk : List (Str × List It)) : List (List D) := stk.map fun p => p.2.map It.toD
/-- the cells: the heads, the list of frames, then the frames with their addresses, the last one first -/
def ce73 (rs : List Nat) (stk : List (Str × List It)) (cur : List It) (iF iH : Nat) : LL := (iH, hd73 stk) :: (iF, rf73 rs) :: rs.zip (cur.map It.toD :: up73 stk)
theorem rf_cons73 {r : Nat} {rs : List Nat} : rf73 (r :: rs) = rf73 rs ++ [.ref r] := by unfold rf73; rw [List.reverse_cons, List.map_append]; rfl
theorem hd_cons73 {x : Str} {l : List It} {stk : List (Str × List It)} : hd73 ((x, l) :: stk) = hd73 stk ++ [.str x] := by unfold hd73; rw [List.reverse_cons, List.map_append, List.map_append]; rfl
theorem ce_app73 {r0 : Nat} {rs : List Nat} {stk : List (Str × List It)} {cur : List It} {iF iH : Nat} {i : It} : (ce73 (r0 :: rs) stk cur iF iH).set 2 (r0, cur.map It.toD ++ [i.toD]) = ce73 (r0 :: rs) stk (cur ++ [i]) iF iH := by
  unfold ce73
  rw [List.map_append]
  rfl
theorem Own.perm73 {h0 h : MH} {L M : LL} (o : Own h0 h L) (p : L.Perm M) : Own h0 h M := ⟨o.pre, fun q hq => o.cell q (p.mem_iff.mpr hq), (p.map _).nodup_iff.mp o.nd⟩
theorem at_end73 {α : Type} {l : List α} {a : α} : atI (l ++ [a]) (-1) = some a := by
  unfold atI ixN
  rw [if_neg (by decide), if_pos (by simp; omega), Option.bind_some]
  have : ((-1 : Int) + ((l ++ [a]).length : Int)).toNat = l.length := by simp; omega
  rw [this]
  simp
theorem hd_len73 {stk : List (Str × List It)} : (hd73 stk).length = stk.length := by unfold hd73; simp
def Inv73 (h : MH) (iF iH : Nat) (l : List Nat) (k : Nat) (due : Bool) (mm : Nat) (h' : MH) : Prop := ∃ (r0 : Nat) (rs : List Nat) (stk : List (Str × List It)) (cur : List It), Own h h' (ce73 (r0 :: rs) stk cur iF iH) ∧ rs.length = stk.length ∧ k ≤ l.length ∧ mm = l.length - k ∧ stk.length ≤ k ∧ cur.length ≤ k ∧ (∀ p ∈ stk, p.2.length ≤ k) ∧ mc73 (l.length + 1) [] [] true l = mc73 (mm + 1) stk cur due (l.drop k)
theorem k_itemsof73 {l : List Nat} (hl : l.length ≤ 90000) {h : MH} : Sat (m_items_of_d6f25 [.str (mS l)] h) (fun d h' => h <+: h' ∧ d = itsD73 (mc73 (l.length + 1) [] [] true l)) noX := by
  walk_at "fn"
  refine o_new (Own.nil h) (by simp) fun i0 h1 o1 => ?_
  walk_at "go"
  refine o_new o1 (by simp) fun iF h2 o2 => ?_
  walk_at "go"
  refine o_new o2 (by simp) fun iH h3 o3 => ?_
  walk_at "go"
  have o3 : Own h h3 (ce73 [i0] [] [] iF iH) := o3
  refine OS.mono (N := fun ρ h' => ∃ (due : Bool) (o5 o6 o7 : Option D), ρ = [some (.str (mS l)), some (.ref iF), some (.ref iH), some (.bl due), some (.int (l.length : Int)), o5, o6, o7] ∧ Inv73 h iF iH l l.length due 0 h') ?_ ?_ (fun _ _ z => z) (fun _ _ z => z) (fun _ _ z => z) (fun _ _ _ _ z => z)
  · refine w_while (fun mm ρ h' => ∃ (k : Nat) (due : Bool) (o5 o6 o7 : Option D), ρ = [some (.str (mS l)), some (.ref iF), some (.ref iH), some (.bl due), some (.int (k : Int)), o5, o6, o7] ∧ Inv73 h iF iH l k due mm h') l.length (by omega)
      ⟨0, true, none, none, none, rfl, i0, [], [], [], o3, rfl, by omega, by omega, by simp, by simp, by simp, rfl⟩ ?_
    rintro mm ρ h4 ⟨k, due, o5, o6, o7, rfl, r0, rs, stk, cur, ow, hrs, hk, rfl, b1, b2, b3, hmc⟩
    have hll : (mS l).length ≤ 1000000 := by rw [mS_len]; omega
    walk_at "go"
    rw [mS_len]
    refine br_d (fun q1 => ?_) (fun q1 => ?_)
    · have hkl : k < l.length := by omega
      have ec : l[k]? = some l[k] := List.getElem?_eq_some_iff.mpr ⟨hkl, rfl⟩
      have edr : l.drop k = l[k] :: l.drop (k + 1) := List.drop_eq_getElem_cons hkl
      generalize l[k] = c at *
      walk_at "go"
      refine w_ixS (by rw [mS_len]; omega) (atI_at (show (mS l).cps.toList[k]? = some c by rw [mS_cps]; exact ec)) ?_
      walk_at "go"
      refine (k_nameend73 hl (by omega) edr).mono ?_
      rintro y h5 ⟨rfl, rfl⟩
      have gF : getL h5 iF = some (rf73 (r0 :: rs)) := ow.atL 1 rfl
      have gH : getL h5 iH = some (hd73 stk) := ow.atL 0 rfl
      have aF : atI (rf73 (r0 :: rs)) (-1) = some (.ref r0) := by rw [rf_cons73]; exact at_end73
      have lH := hd_len73 (stk := stk)
      rw [edr] at hmc
      have elen : l.length - k = l.length - (k + 1) + 1 := by omega
      walk_at "go"
      cases due with
      | true =>
        refine ⟨fun _ => ?_, fun q => (q rfl).elim⟩
        walk_at "go"
        refine br_d (fun q2 => ?_) (fun q2 => ?_)
        · have ha : isL72 c = true := by
            cases hc : isL72 c with
            | true => rfl
            | false =>
              rw [List.takeWhile_cons, hc] at q2
              simp at q2
          have hdl := tdw73 isL72 (c :: l.drop (k + 1))
          have hcut := List.takeWhile_append_dropWhile (p := isL72) (l := c :: l.drop (k + 1))
          have hll2 : (c :: l.drop (k + 1)).length = l.length - k := by rw [← edr, List.length_drop]
          have htw1 : 1 ≤ ((c :: l.drop (k + 1)).takeWhile isL72).length := by rw [List.takeWhile_cons, if_pos ha]; simp
          rw [hll2] at hdl
          rw [mc73, if_pos ha] at hmc
          have hdrop : l.drop (k + ((c :: l.drop (k + 1)).takeWhile isL72).length) = (c :: l.drop (k + 1)).dropWhile isL72 := by
            rw [← List.drop_drop, edr, tw_take72]
          have hc1 : cutS (mS l) (some (k : Int)) (some ((k + ((c :: l.drop (k + 1)).takeWhile isL72).length : Nat) : Int)) = mS ((c :: l.drop (k + 1)).takeWhile isL72) := by
            rw [cutR_nat (by rw [mS_cps]; omega) (by rw [mS_cps]; omega), mS_cps, Nat.add_sub_cancel_left, edr, take_tw73]
          have hc2 : cutS (mS l) (some ((k + ((c :: l.drop (k + 1)).takeWhile isL72).length : Nat) : Int)) (some (((k + ((c :: l.drop (k + 1)).takeWhile isL72).length : Nat) : Int) + 1)) = mS (((c :: l.drop (k + 1)).dropWhile isL72).take 1) := by
            rw [cutR_one (by rw [mS_cps]; omega), mS_cps, hdrop]
          have htail : l.drop (k + ((c :: l.drop (k + 1)).takeWhile isL72).length + 1) = ((c :: l.drop (k + 1)).dropWhile isL72).tail := by
            rw [← List.drop_drop, hdrop, List.drop_one]
          generalize (c :: l.drop (k + 1)).takeWhile isL72 = tw at *
          generalize (c :: l.drop (k + 1)).dropWhile isL72 = dw at *
          generalize hee : k + tw.length = e at *
          walk_at "go"
          refine br_d (fun q8 => ?_) (fun q8 => ?_)
          · walk_at "go"
            have h8 : ¬ tw.length ≤ 8 := by omega
            exact ⟨ow.pre, by rw [hmc, if_neg h8]; rfl⟩
          have h8 : tw.length ≤ 8 := by omega
          rw [if_pos h8] at hmc
          walk_at "go"
          rw [hc2]
          have hopen : (mS (dw.take 1) = Str.ofString "(") ↔ dw.head? = some 40 := by
            rw [sR_open72, mS_inj]
            cases dw with
            | nil => simp
            | cons d t => simp
          have ele : l.length - k = (l.length - e) + tw.length := by omega
          by_cases hop : dw.head? = some 40
          · rw [decide_eq_true (hopen.mpr hop)]
            rw [if_pos hop] at hmc
            have hdl1 : 1 ≤ dw.length := by
              cases dw with
              | nil => cases hop
              | cons d t => simp
            refine ⟨fun _ => ?_, fun q => (q rfl).elim⟩
            walk_at "go"
            rw [hc1]
            refine o_app ow 0 rfl (by omega) fun h6 o6 => ?_
            rw [← hd_cons73 (l := cur)] at o6
            walk_at "go"
            refine o_new o6 (by simp) fun iN h7 o7 => ?_
            walk_at "go"
            refine o_app o7 2 rfl (by unfold rf73; simp; omega) fun h8' o8 => ?_
            rw [← rf_cons73] at o8
            have o8 : Own h h8' ((iN, []) :: (iH, hd73 ((mS tw, cur) :: stk)) :: (iF, rf73 (iN :: r0 :: rs)) :: (r0, cur.map It.toD) :: rs.zip (up73 stk)) := o8
            have o9 : Own h h8' (ce73 (iN :: r0 :: rs) ((mS tw, cur) :: stk) [] iF iH) := o8.perm73 ((List.Perm.swap _ _ _).trans (List.Perm.cons _ (List.Perm.swap _ _ _)))
            walk_at "go"
            refine w_intB73 ?_
            walk_at "go"
            have ek : ((e : Int) + (if true = true then 1 else 0)) - 1 + 1 = ((e + 1 : Nat) : Int) := by simp
            rw [ek]
            refine ⟨l.length - (e + 1), by omega, e + 1, true, _, _, _, rfl, iN, r0 :: rs, (mS tw, cur) :: stk, [], o9, by simp [hrs], by omega, rfl, by rw [List.length_cons]; omega, by simp, fun p hp => ?_, ?_⟩
            · rcases List.mem_cons.mp hp with rfl | hp
              · dsimp only; omega
              · have := b3 p hp; omega
            · rw [hmc, htail]
              exact mc_fuel73 _ _ _ _ _ _ (by rw [List.length_tail]; omega) (by rw [List.length_tail]; omega)
          · rw [decide_eq_false fun z => hop (hopen.mp z)]
            rw [if_neg hop] at hmc
            refine ⟨fun q => (by cases q), fun _ => ?_⟩
            walk_at "go"
            rw [hc1]
            have e7 : D.tup [.str (mS tw), .tup []] = (It.nd (mS tw) []).toD := by rw [it_nd]; rfl
            rw [e7]
            refine o_app ow 2 rfl (by rw [List.length_map]; omega) fun h6 o6 => ?_
            rw [ce_app73] at o6
            walk_at "go"
            refine w_intB73 ?_
            walk_at "go"
            have ek : ((e : Int) + (if false = true then 1 else 0)) - 1 + 1 = ((e : Nat) : Int) := by simp
            rw [ek]
            refine ⟨l.length - e, by omega, e, false, _, _, _, rfl, r0, rs, stk, cur ++ [.nd (mS tw) []], o6, hrs, by omega, rfl, by omega, by rw [List.length_append, List.length_singleton]; omega, fun p hp => by have := b3 p hp; omega, ?_⟩
            rw [hmc, hdrop]
            exact mc_fuel73 _ _ _ _ _ _ (by omega) (by omega)
        · have ha : ¬ isL72 c = true := fun hc => by
            rw [List.takeWhile_cons, if_pos hc, List.length_cons] at q2
            omega
          rw [mc73, if_neg ha] at hmc
          walk_at "go"
          refine br_d (fun q3 => ?_) (fun q3 => ?_)
          · have hc42 : c = 42 := by
              rw [sR_st72] at q3
              have := congrArg (fun x : Str => x.cps.toList) q3
              exact (List.cons.inj this).1
            rw [if_pos hc42] at hmc
            walk_at "go"
            refine o_app ow 2 rfl (by rw [List.length_map]; omega) fun h6 o6 => ?_
            have e6 : D.str (Str.ofString "*") = It.hole.toD := rfl
            rw [e6, ce_app73] at o6
            walk_at "go"
            refine ⟨l.length - (k + 1), by omega, k + 1, false, _, _, _, rfl, r0, rs, stk, cur ++ [.hole], o6, hrs, by omega, rfl, by omega, by rw [List.length_append, List.length_singleton]; omega, fun p hp => by have := b3 p hp; omega, by rw [hmc, elen]⟩
          · have hc42 : c ≠ 42 := fun z => q3 (by rw [z]; rfl)
            rw [if_neg hc42] at hmc
            walk_at "go"
            exact ⟨ow.pre, by rw [hmc]; rfl⟩
      | false =>
        refine ⟨fun q => (by cases q), fun _ => ?_⟩
        walk_at "go"
        have c41 : ((⟨#[c]⟩ : Str) = Str.ofString ")") ↔ c = 41 := by
          rw [sR_shut72]
          exact ⟨fun q3 => (List.cons.inj (congrArg (fun x : Str => x.cps.toList) q3)).1, fun z => by rw [z]; rfl⟩
        have c32 : ((⟨#[c]⟩ : Str) = Str.ofString " ") ↔ c = 32 := by
          rw [sR_b72]
          exact ⟨fun q3 => (List.cons.inj (congrArg (fun x : Str => x.cps.toList) q3)).1, fun z => by rw [z]; rfl⟩
        have tail : c ≠ 41 ∨ stk = [] → mc73 (l.length - k + 1) stk cur false (c :: l.drop (k + 1)) = if c = 32 then mc73 (l.length - k) stk cur true (l.drop (k + 1)) else none := fun z => by
          cases stk with
          | nil =>
            rw [mc73]
            by_cases h41 : c = 41
            · rw [if_pos h41, if_neg (by omega)]
            · rw [if_neg h41]
          | cons p stk =>
            obtain ⟨x, up⟩ := p
            rcases z with z | z
            · rw [mc73, if_neg z]
            · cases z
        refine br_d (fun q3 => ?_) (fun q3 => ?_)
        · have h41 := c41.mp q3
          walk_at "go"
          cases stk with
          | nil =>
            rw [tail (.inr rfl)] at hmc
            have h32 : c ≠ 32 := by omega
            rw [if_neg h32] at hmc
            refine br_d (fun q4 => ?_) (fun q4 => ?_)
            · exfalso
              simp at q4
            walk_at "go"
            refine br_d (fun q5 => (h32 (c32.mp q5)).elim) (fun q5 => ?_)
            walk_at "go"
            exact ⟨ow.pre, by rw [hmc]; rfl⟩
          | cons p stk =>
            obtain ⟨x, up⟩ := p
            obtain ⟨r1, rs, rfl⟩ : ∃ r1 rs', rs = r1 :: rs' := by
              cases rs with
              | nil => simp at hrs
              | cons r1 rs => exact ⟨r1, rs, rfl⟩
            have bup : up.length ≤ k := b3 (x, up) List.mem_cons_self
            have hrs' : rs.length = stk.length := by simpa using hrs
            rw [mc73, if_pos h41] at hmc
            refine br_d (fun q4 => ?_) (fun q4 => ?_)
            · have eF : (ce73 (r0 :: r1 :: rs) ((x, up) :: stk) cur iF iH)[1]? = some (iF, rf73 (r1 :: rs) ++ [.ref r0]) := by
                rw [← rf_cons73]; rfl
              walk_at "go"
              refine o_pop ow 1 eF fun h6 o6 => ?_
              have eH : ((ce73 (r0 :: r1 :: rs) ((x, up) :: stk) cur iF iH).set 1 (iF, rf73 (r1 :: rs)))[0]? = some (iH, hd73 stk ++ [.str x]) := by
                rw [← hd_cons73]; rfl
              have gF6 : getL h6 iF = some (rf73 (r1 :: rs)) := o6.atL 1 rfl
              have aF6 : atI (rf73 (r1 :: rs)) (-1) = some (.ref r1) := by rw [rf_cons73]; exact at_end73
              walk_at "go"
              refine o_pop o6 0 eH fun h7 o7 => ?_
              have gr7 : getL h7 r0 = some (cur.map It.toD) := o7.atL 2 rfl
              walk_at "go"
              have o8 : Own h h7 ((iH, hd73 stk) :: (iF, rf73 (r1 :: rs)) :: (r0, cur.map It.toD) :: (r1, up.map It.toD) :: rs.zip (up73 stk)) := o7
              have o9 : Own h h7 (ce73 (r1 :: rs) stk up iF iH) := o8.sub (List.Sublist.cons_cons _ (List.Sublist.cons_cons _ (List.sublist_cons_self _ _)))
              refine o_app o9 2 rfl (by rw [List.length_map]; omega) fun h8 o10 => ?_
              rw [← it_nd, ce_app73] at o10
              walk_at "go"
              have hsl : (((x, up) :: stk).length) = stk.length + 1 := rfl
              exact ⟨l.length - (k + 1), by omega, k + 1, false, _, _, _, rfl, r1, rs, stk, up ++ [.nd x cur], o10, hrs', by omega, rfl, by omega, by rw [List.length_append, List.length_singleton]; omega, fun p hp => by have := b3 p (List.mem_cons_of_mem _ hp); omega, by rw [hmc, elen]⟩
            · exfalso
              simp at q4
        · have h41 : c ≠ 41 := fun z => q3 (c41.mpr z)
          rw [tail (.inl h41)] at hmc
          refine ⟨fun q => (by cases q), fun _ => ?_⟩
          walk_at "go"
          refine br_d (fun q5 => ?_) (fun q5 => ?_)
          · have h32 := c32.mp q5
            rw [if_pos h32] at hmc
            walk_at "go"
            exact ⟨l.length - (k + 1), by omega, k + 1, true, _, _, _, rfl, r0, rs, stk, cur, ow, hrs, by omega, rfl, by omega, by omega, fun p hp => by have := b3 p hp; omega, by rw [hmc, elen]⟩
          · have h32 : c ≠ 32 := fun z => q5 (c32.mpr z)
            rw [if_neg h32] at hmc
            walk_at "go"
            exact ⟨ow.pre, by rw [hmc]; rfl⟩
    · walk_at "go"
      have : k = l.length := by omega
      subst this
      exact ⟨due, o5, o6, o7, rfl, r0, rs, stk, cur, ow, hrs, hk, by omega, b1, b2, b3, by rw [hmc, Nat.sub_self]⟩
  · rintro ρ h4 ⟨due, o5, o6, o7, rfl, r0, rs, stk, cur, ow, hrs, hk, _, b1, b2, b3, hmc⟩
    rw [List.drop_length] at hmc
    rw [hmc]
    have gF : getL h4 iF = some (rf73 (r0 :: rs)) := ow.atL 1 rfl
    have gH : getL h4 iH = some (hd73 stk) := ow.atL 0 rfl
    walk_at "go"
    cases due with
    | true =>
      refine ⟨fun _ => ?_, fun q => (q rfl).elim⟩
      walk_at "go"
      exact ⟨ow.pre, rfl⟩
    | false =>
      refine ⟨fun q => (by cases q), fun _ => ?_⟩
      have lH := hd_len73 (stk := stk)
      walk_at "go"
      refine br_d (fun q4 => ?_) (fun q4 => ?_)
      · have hne : stk ≠ [] := fun z => by rw [z] at q4; simp at q4
        walk_at "go"
        exact ⟨ow.pre, by rw [mc73, if_pos (Or.inr hne)]; rfl⟩
      · have hne : stk = [] := List.eq_nil_of_length_eq_zero (by rw [List.length_map, List.length_reverse] at q4; omega)
        subst hne
        obtain rfl : rs = [] := List.eq_nil_of_length_eq_zero hrs
        have aF0 : atI (rf73 [r0]) 0 = some (.ref r0) := rfl
        have gr : getL h4 r0 = some (cur.map It.toD) := ow.atL 2 rfl
        walk_at "go"
        exact ⟨ow.pre, by rw [mc73, if_neg (by simp)]; rfl⟩
end
section
open PySem L2

local macro_rules | `(tactic| walk_at "lk") => `(tactic| first | with_reducible exact lkA | (apply lkB; decide +kernel; walk_at "lk"))
local macro_rules | `(tactic| walk_at "mk") => `(tactic| first | with_reducible exact mkA | (apply mkB; decide +kernel; walk_at "mk"))
local macro_rules | `(tactic| walk_at "fk") => `(tactic| first | with_reducible exact fkA | exact fkN | (apply fkB; decide +kernel; walk_at "fk"))
local macro_rules | `(tactic| walk_at "cs") => `(tactic| first | exact List.mem_cons_self | (apply List.mem_cons_of_mem; walk_at "cs"))
local macro_rules | `(tactic| walk_at "w") => `(tactic| first
  | with_reducible refine w_fld ?_
  | ((with_reducible refine w_fldK (c := ?_) (fs := ?_) (v := ?_) ?_ ?_ ?_ ?_); rotate_left; rotate_left; rotate_left; (with_reducible assumption); (walk_at "cs"); (walk_at "fk"))
  | with_reducible refine w_setFld ?_
  | with_reducible refine w_new ?_
  | with_reducible refine w_methI ?_
  | ((with_reducible refine w_methK (c := ?_) (fs := ?_) (F := ?_) ?_ ?_ ?_ ?_); rotate_left; rotate_left; rotate_left; (with_reducible assumption); (walk_at "mk"); (walk_at "fk"))
  | with_reducible refine w_isC ?_
  | ((with_reducible refine w_isCK (c := ?_) (fs := ?_) (k := ?_) ?_ ?_ ?_); rotate_left; rotate_left; rotate_left; (with_reducible assumption); (walk_at "lk"))
  | with_reducible refine w_callD ?_
  | with_reducible refine w_mDSet ?_
  | with_reducible refine w_eq (nN_non _) ?_
  | with_reducible refine w_eq (nN_int _ _) ?_
  | with_reducible refine w_eq (nN_tup _ _) ?_
  | with_reducible refine w_eq (nN_ref _ _) ?_
  | with_reducible refine w_eq (iN_non _) ?_
  | with_reducible refine w_eq (iN_int _ _) ?_
  | with_reducible refine w_eq (iN_tup _ _) ?_
  | with_reducible refine w_eq (iN_ref _ _) ?_)
theorem cut_to73 {a : List Nat} {n : Nat} : cutS (mS a) none (some (n : Int)) = mS (a.take n) := by
  rw [C8.cutS_slice]
  have := SX.slice_to (a := a) (i := (n : Int)) (by omega)
  rw [Int.toNat_natCast] at this
  exact this
theorem cut_from73 {a : List Nat} {n : Nat} {i : Int} (h : i = (n : Int)) : cutS (mS a) (some i) none = mS (a.drop n) := by
  subst h
  rw [C8.cutS_slice]
  have := SX.slice_from (a := a) (i := (n : Int)) (by omega)
  rw [Int.toNat_natCast] at this
  exact this
theorem cut_nat73 {l : List Nat} {a b : Nat} {i j : Int} (ha : a ≤ l.length) (hb : b ≤ l.length ∨ True) (ei : i = (a : Int)) (ej : j = (b : Int)) : cutS (mS l) (some i) (some j) = mS ((l.drop a).take (b - a)) := by
  subst ei ej
  rcases Nat.lt_or_ge l.length b with z | z
  · rw [C8.cutS_slice]
    have h1 := SX.idx_hi (l := some (a : Int)) (n := l.length) (i := (b : Int)) (by omega)
    have e : (mS l).length = l.length := mS_len l
    have : Txt.slice (mS l) (some (a : Int)) (some (b : Int)) = Txt.slice (mS l) (some (a : Int)) (some (l.length : Int)) := by
      unfold Txt.slice
      rw [e, h1]
    rw [this, ← C8.cutS_slice, cutR_nat (by rw [mS_cps]; exact ha) (by rw [mS_cps]; exact Nat.le_refl _), mS_cps, List.take_of_length_le (by rw [List.length_drop]; omega), List.take_of_length_le (by rw [List.length_drop]; omega)]
  · rw [cutR_nat (by rw [mS_cps]; exact ha) (by rw [mS_cps]; exact z), mS_cps]
theorem k_ruleof73 {l : List Nat} (hc : l.count 40 < 34) (hl : l.length ≤ 80000) {h : MH} : Sat (m_rule_of_19f7e [.str (mS l)] h) (fun d h' => h <+: h' ∧ d = rlD73 (rule73 l)) noX := by
  have hdl := tdw73 isL72 l
  have hll : (mS l).length ≤ 1000000 := by rw [mS_len]; omega
  walk_at "fn"
  refine (k_nameend73 (l := l) (r := l) (k := 0) (by omega) (by omega) rfl).mono ?_
  rintro y h2 ⟨rfl, rfl⟩
  rw [Nat.zero_add]
  have htk := take_tw73 isL72 l
  have hdr := tw_take72 isL72 l
  have hc3 : cutS (mS l) (some (((l.takeWhile isL72).length : Nat) : Int)) (some ((((l.takeWhile isL72).length : Nat) : Int) + 3)) = mS ((l.dropWhile isL72).take 3) := by
    rw [cut_nat73 (a := (l.takeWhile isL72).length) (b := (l.takeWhile isL72).length + 3) (by omega) (.inr trivial) rfl (by omega), hdr, Nat.add_sub_cancel_left]
  have hc4 : cutS (mS l) (some ((((l.takeWhile isL72).length : Nat) : Int) + 3)) none = mS ((l.dropWhile isL72).drop 3) := by
    rw [cut_from73 (n := (l.takeWhile isL72).length + 3) (by omega), ← List.drop_drop, hdr]
  have hc5 : cutS (mS l) none (some (((l.takeWhile isL72).length : Nat) : Int)) = mS (l.takeWhile isL72) := by
    rw [cut_to73, htk]
  have hcnt : ((l.dropWhile isL72).drop 3).count 40 ≤ l.count 40 := ((List.drop_suffix _ _).trans (List.dropWhile_suffix _)).sublist.count_le 40
  have hrl : ((l.dropWhile isL72).drop 3).length ≤ l.length := by rw [List.length_drop]; omega
  unfold rule73
  generalize l.takeWhile isL72 = tw at *
  generalize l.dropWhile isL72 = dw at *
  walk_at "go"
  by_cases hs : (1 ≤ tw.length ∧ tw.length ≤ 8) ∧ dw.take 3 = [32, 45, 62]
  · rw [if_pos hs]
    refine br_d (fun q => (by omega)) (fun q => ?_)
    walk_at "go"
    rw [hc3]
    refine br_d (fun q => ?_) (fun q => (q (by rw [hs.2, sR_ar72])).elim)
    walk_at "go"
    rw [hc4]
    generalize dw.drop 3 = rest at *
    cases rest with
    | nil =>
      refine br_d (fun q => ?_) (fun q => (q rfl).elim)
      walk_at "go"
      rw [hc5]
      exact ⟨List.prefix_rfl, rfl⟩
    | cons c r =>
      have hcr : r.count 40 ≤ (c :: r).count 40 := (List.sublist_cons_self _ _).count_le 40
      rw [List.length_cons] at hrl
      refine br_d (fun q => ?_) (fun q => ?_)
      · exfalso
        rw [show Str.ofString "" = mS [] from rfl, mS_inj] at q
        cases q
      walk_at "go"
      refine w_ixS (by rw [mS_len, List.length_cons]; omega) (show atI (mS (c :: r)).cps.toList 0 = some c from atI_at (k := 0) (show (mS (c :: r)).cps.toList[0]? = some c from rfl)) ?_
      walk_at "go"
      have c32 : ((⟨#[c]⟩ : Str) = Str.ofString " ") ↔ c = 32 := by
        rw [sR_b72]
        exact ⟨fun q3 => (List.cons.inj (congrArg (fun x : Str => x.cps.toList) q3)).1, fun z => by rw [z]; rfl⟩
      by_cases h32 : c = 32
      · rw [if_pos h32]
        refine br_d (fun q => ?_) (fun q => (q (c32.mpr h32)).elim)
        have hcut : cutS (mS (c :: r)) (some (1 : Int)) none = mS r := by rw [cut_from73 (n := 1) (by rfl)]; rfl
        walk_at "go"
        refine w_slS (by rw [mS_len, List.length_cons]; omega) ?_
        rw [hcut]
        walk_at "go"
        refine (k_itemsof73 (by omega)).mono ?_
        rintro y h3 ⟨p3, rfl⟩
        rw [mc_top73 (n := 34) (by omega) (by omega)]
        cases its73 34 r with
        | none =>
          rw [itsD73]
          walk_at "go"
          exact ⟨p3, rfl⟩
        | some its =>
          rw [itsD73]
          walk_at "go"
          rw [hc5]
          exact ⟨p3, rfl⟩
      · rw [if_neg h32]
        refine br_d (fun q => (h32 (c32.mp q)).elim) (fun q => ?_)
        walk_at "go"
        exact ⟨List.prefix_rfl, rfl⟩
  · rw [if_neg hs]
    refine br_d (fun q => ?_) (fun q => ?_)
    · walk_at "go"
      exact ⟨List.prefix_rfl, rfl⟩
    walk_at "go"
    refine br_d (fun q2 => ?_) (fun q2 => ?_)
    · walk_at "go"
      exact ⟨List.prefix_rfl, rfl⟩
    walk_at "go"
    rw [hc3]
    refine br_d (fun q3 => ?_) (fun q3 => ?_)
    · exfalso
      refine hs ⟨by omega, ?_⟩
      rw [sR_ar72, mS_inj] at q3
      exact q3
    walk_at "go"
    exact ⟨List.prefix_rfl, rfl⟩
end
section
open PySem L2
/-! a text cut at its semicolons -/
theorem pre59_73 {c : Nat} {r : List Nat} : TL.pre [59] (c :: r) = decide (c = 59) := by
  unfold TL.pre
  show ([c] == [59]) = _
  by_cases h : c = 59
  · subst h; rfl
  · rw [decide_eq_false h]
    exact Bool.eq_false_iff.mpr fun z => h (List.cons.inj (eq_of_beq z)).1
theorem spl_ne73 : ∀ (l acc : List Nat), TL.spl [59] 0 acc l ≠ []
  | [], acc => by rw [TL.spl_nil]; simp
  | c :: r, acc => by
    cases h : TL.pre [59] (c :: r) with
    | true => rw [TL.spl_hit h]; simp
    | false => rw [TL.spl_miss h]; exact spl_ne73 r _
theorem spl_joinL73 : ∀ (l acc : List Nat), TL.joinL [59] (TL.spl [59] 0 acc l) = acc ++ l
  | [], acc => by rw [TL.spl_nil, List.append_nil]; rfl
  | c :: r, acc => by
    cases h : TL.pre [59] (c :: r) with
    | true =>
      rw [pre59_73] at h
      have hc := of_decide_eq_true h
      rw [← pre59_73 (r := r)] at h
      rw [TL.spl_hit h]
      have ih := spl_joinL73 r []
      have hne := spl_ne73 r []
      show TL.joinL [59] (acc :: TL.spl [59] 0 [] r) = _
      cases e : TL.spl [59] 0 [] r with
      | nil => exact (hne e).elim
      | cons b t =>
        rw [e] at ih
        rw [jn_cons72, ih, hc]
        rfl
    | false =>
      rw [TL.spl_miss h, spl_joinL73 r]
      simp
theorem jn_sub73 {s : List Nat} : ∀ (l : List (List Nat)) (a : List Nat), a ∈ l → a.Sublist (TL.joinL s l)
  | [b], a, h => by rw [List.mem_singleton.mp h]; exact List.Sublist.refl _
  | b :: d :: l, a, h => by
    rw [jn_cons72]
    rcases List.mem_cons.mp h with rfl | h
    · exact List.sublist_append_left _ _
    · exact ((jn_sub73 (s := s) (d :: l) a h).trans (List.sublist_append_right _ _)).trans (List.sublist_append_right _ _)
theorem strp_sub73 (l : List Nat) : (strp72 l).Sublist l := by
  unfold strp72
  have h1 : ((l.dropWhile (· == 32)).reverse.dropWhile (· == 32)).Sublist (l.dropWhile (· == 32)).reverse := (List.dropWhile_suffix _).sublist
  have h2 := h1.reverse
  rw [List.reverse_reverse] at h2
  exact h2.trans (List.dropWhile_suffix _).sublist
/-- the rows of a text -/
def rows73 (l : List Nat) : List (List Nat) := (TL.spl [59] 0 [] l).map strp72
theorem rows_mem73 {l r : List Nat} (h : r ∈ rows73 l) : r.Sublist l := by
  obtain ⟨a, ha, rfl⟩ := List.mem_map.mp h
  have := jn_sub73 (s := [59]) _ a ha
  rw [spl_joinL73, List.nil_append] at this
  exact (strp_sub73 a).trans this
/-- a text of blanks is one row, which is empty -/
theorem rows_blank73 (l : List Nat) : rows73 l = [[]] ↔ strp72 l = [] := by
  constructor
  · intro h
    unfold rows73 at h
    have hj := spl_joinL73 l []
    rw [List.nil_append] at hj
    cases e : TL.spl [59] 0 [] l with
    | nil => exact (spl_ne73 l [] e).elim
    | cons a t =>
      rw [e] at h hj
      cases t with
      | nil =>
        have : a = l := hj
        rw [← this]
        exact (List.cons.inj h).1
      | cons b t => have := congrArg List.length h; simp at this
  · intro h
    have hall := strp_nil72 h
    have h59 : 59 ∉ l := fun z => by have := hall 59 z; omega
    unfold rows73
    have := TL.spl_last1 (S := []) (acc := []) h59
    rw [this, List.nil_append, List.map_singleton, h]
/-! what is due -/
def fNone73 {α : Type} : List (Option α) → Nat → Option Nat
  | [], _ => none
  | none :: _, k => some k
  | some _ :: l, k => fNone73 l (k + 1)
theorem fNone_some73 {α : Type} : ∀ (l : List (Option α)) (k m : Nat), fNone73 l k = some m → ∃ j, m = k + j ∧ l[j]? = some none ∧ ∀ i, i < j → ∃ a, l[i]? = some (some a)
  | [], k, m, h => by cases h
  | none :: l, k, m, h => by
    cases h
    exact ⟨0, rfl, rfl, fun i hi => by omega⟩
  | some a :: l, k, m, h => by
    obtain ⟨j, e1, e2, e3⟩ := fNone_some73 l (k + 1) m h
    refine ⟨j + 1, by omega, by rw [List.getElem?_cons_succ]; exact e2, fun i hi => ?_⟩
    cases i with
    | zero => exact ⟨a, rfl⟩
    | succ i => rw [List.getElem?_cons_succ]; exact e3 i (by omega)
theorem fNone_none73 {α : Type} : ∀ (l : List (Option α)) (k : Nat), fNone73 l k = none → ∃ ps : List α, l = ps.map some
  | [], _, _ => ⟨[], rfl⟩
  | none :: l, k, h => by cases h
  | some a :: l, k, h => by
    obtain ⟨ps, e⟩ := fNone_none73 l (k + 1) h
    exact ⟨a :: ps, by rw [List.map_cons, ← e]⟩
/-- the first name that was told before -/
def fDup73 (ks : List Str) : List Str → Nat → Option Nat
  | [], _ => none
  | x :: l, k => if x ∈ ks then some k else fDup73 (ks ++ [x]) l (k + 1)
inductive Rd73 where
  | ok (ps : TRl) | no (k : Nat)
def rd73 (l : List Nat) : Rd73 :=
  if strp72 l = [] then .ok []
  else if 12 < (rows73 l).length then .no 12
  else match fNone73 ((rows73 l).map rule73) 0 with
    | some k => .no k
    | none => match fDup73 [] (((rows73 l).filterMap rule73).map (·.1)) 0 with
      | some k => .no k
      | none => .ok ((rows73 l).filterMap rule73)
end
section
open PySem L2

local macro_rules | `(tactic| walk_at "lk") => `(tactic| first | with_reducible exact lkA | (apply lkB; decide +kernel; walk_at "lk"))
local macro_rules | `(tactic| walk_at "mk") => `(tactic| first | with_reducible exact mkA | (apply mkB; decide +kernel; walk_at "mk"))
local macro_rules | `(tactic| walk_at "fk") => `(tactic| first | with_reducible exact fkA | exact fkN | (apply fkB; decide +kernel; walk_at "fk"))
local macro_rules | `(tactic| walk_at "cs") => `(tactic| first | exact List.mem_cons_self | (apply List.mem_cons_of_mem; walk_at "cs"))
local macro_rules | `(tactic| walk_at "w") => `(tactic| first
  | with_reducible refine w_fld ?_
  | ((with_reducible refine w_fldK (c := ?_) (fs := ?_) (v := ?_) ?_ ?_ ?_ ?_); rotate_left; rotate_left; rotate_left; (with_reducible assumption); (walk_at "cs"); (walk_at "fk"))
  | with_reducible refine w_setFld ?_
  | with_reducible refine w_new ?_
  | with_reducible refine w_methI ?_
  | ((with_reducible refine w_methK (c := ?_) (fs := ?_) (F := ?_) ?_ ?_ ?_ ?_); rotate_left; rotate_left; rotate_left; (with_reducible assumption); (walk_at "mk"); (walk_at "fk"))
  | with_reducible refine w_isC ?_
  | ((with_reducible refine w_isCK (c := ?_) (fs := ?_) (k := ?_) ?_ ?_ ?_); rotate_left; rotate_left; rotate_left; (with_reducible assumption); (walk_at "lk"))
  | with_reducible refine w_callD ?_
  | with_reducible refine w_mDSet ?_
  | with_reducible refine w_eq (nN_non _) ?_
  | with_reducible refine w_eq (nN_int _ _) ?_
  | with_reducible refine w_eq (nN_tup _ _) ?_
  | with_reducible refine w_eq (nN_ref _ _) ?_
  | with_reducible refine w_eq (iN_non _) ?_
  | with_reducible refine w_eq (iN_int _ _) ?_
  | with_reducible refine w_eq (iN_tup _ _) ?_
  | with_reducible refine w_eq (iN_ref _ _) ?_)
/-! what is read is well made -/
def Wl73 (l : List Nat) (i : It) : Prop := i.nms ∧ i.dp ≤ l.count 40 + 1
def Wls73 (l : List Nat) (its : List It) : Prop := It.nmss its ∧ It.dps its ≤ l.count 40 + 1
theorem row_wl73 {n : Nat} (hi : ∀ l i q, pIt72 n l = .ok (i, q) → Wl73 l i) : ∀ k l its q, pRow72 (pIt72 n) k l = .ok (its, q) → Wls73 l its
  | 0, l, its, q, e => by rw [pRow72] at e; cases e
  | k + 1, l, its, q, e => by
    cases hf : pIt72 n l with
    | out => rw [pRow72, hf] at e; cases e
    | no => rw [pRow72, hf] at e; cases e
    | ok w =>
      obtain ⟨i, r⟩ := w
      have h1 := hi l i r hf
      have h2 := (pIt_len73 n).1 l i r hf
      by_cases hb : ∃ r', r = 32 :: r'
      · obtain ⟨r', rfl⟩ := hb
        rw [pRow_blank72 hf] at e
        cases hr : pRow72 (pIt72 n) k r' with
        | out => rw [hr] at e; cases e
        | no => rw [hr] at e; cases e
        | ok w =>
          obtain ⟨its', q'⟩ := w
          rw [hr] at e
          cases e
          have h3 := row_wl73 hi k r' its' q hr
          have hs : r' <:+ l := (List.suffix_cons _ _).trans h2.2
          have hcs := hs.sublist.count_le 40
          refine ⟨⟨h1.1, h3.1⟩, ?_⟩
          rw [It.dps]
          have := h1.2
          have := h3.2
          omega
      · rw [pRow_end72 hf fun r' z => hb ⟨r', z⟩] at e
        cases e
        refine ⟨⟨h1.1, trivial⟩, ?_⟩
        rw [It.dps, It.dps]
        have := h1.2
        omega
theorem it_wl73 : ∀ n l i q, pIt72 n l = .ok (i, q) → Wl73 l i
  | 0, l, i, q, e => by
    have : pIt72 0 l = .out := by rw [pIt72]
    rw [this] at e
    cases e
  | n + 1, l, i, q, e => by
    by_cases h42 : ∃ r, l = 42 :: r
    · obtain ⟨r, rfl⟩ := h42
      rw [pIt_star73] at e
      cases e
      exact ⟨trivial, by rw [It.dp]; omega⟩
    · have h42 : ∀ r, l ≠ 42 :: r := fun r z => h42 ⟨r, z⟩
      by_cases hw : 1 ≤ (l.takeWhile isL72).length ∧ (l.takeWhile isL72).length ≤ 8
      · by_cases er : ∃ r', l.dropWhile isL72 = 40 :: r'
        · obtain ⟨r', er⟩ := er
          have hs : (40 :: r') <:+ l := er ▸ List.dropWhile_suffix _
          have hcs := hs.sublist.count_le 40
          rw [List.count_cons_self] at hcs
          rw [pIt_open73 h42 hw er] at e
          cases hr : pRow72 (pIt72 n) (r'.length + 1) r' with
          | out => rw [hr] at e; cases e
          | no => rw [hr] at e; cases e
          | ok w =>
            obtain ⟨its', q'⟩ := w
            rw [hr] at e
            have h3 := row_wl73 (it_wl73 n) _ _ _ _ hr
            by_cases hq : ∃ q'', q' = 41 :: q''
            · obtain ⟨q'', rfl⟩ := hq
              rw [nd_shut73] at e
              cases e
              refine ⟨⟨nm_tw73 hw, h3.1⟩, ?_⟩
              rw [It.dp]
              have := h3.2
              omega
            · rw [nd_no73 fun r z => hq ⟨r, z⟩] at e
              cases e
        · rw [pIt_leaf73 h42 hw fun r z => er ⟨r, z⟩] at e
          cases e
          exact ⟨⟨nm_tw73 hw, trivial⟩, by rw [It.dp, It.dps]; omega⟩
      · rw [pIt_no73 h42 hw] at e
        cases e
theorem rule_wl73 {l : List Nat} {p : Str × List It} (e : rule73 l = some p) : Nm p.1 ∧ It.nmss p.2 ∧ It.dps p.2 ≤ l.count 40 + 1 := by
  unfold rule73 at e
  split at e
  · rename_i hs
    have hw := nm_tw73 hs.1
    split at e
    · cases e
      exact ⟨hw, trivial, by rw [It.dps]; omega⟩
    · rename_i c r er
      have hcnt : r.count 40 ≤ l.count 40 := by
        have h1 := ((List.drop_suffix 3 (l.dropWhile isL72)).trans (List.dropWhile_suffix isL72)).sublist.count_le 40
        rw [er] at h1
        exact Nat.le_trans ((List.sublist_cons_self c r).count_le 40) h1
      split at e
      · rw [Option.map_eq_some_iff] at e
        obtain ⟨its, e1, rfl⟩ := e
        unfold its73 at e1
        cases hr : pRow72 (pIt72 34) (r.length + 1) r with
        | out => rw [hr] at e1; cases e1
        | no => rw [hr] at e1; cases e1
        | ok w =>
          obtain ⟨its', q⟩ := w
          rw [hr] at e1
          have h3 := row_wl73 (it_wl73 34) _ _ _ _ hr
          cases q with
          | nil =>
            cases e1
            exact ⟨hw, h3.1, by have := h3.2; dsimp only; omega⟩
          | cons d q => cases e1
      · cases e
  · cases e
theorem rl_pln73 {o : Option (Str × List It)} (h : ∀ p, o = some p → Nm p.1 ∧ It.nmss p.2 ∧ It.dps p.2 ≤ 28) : pln 58 (rlD73 o) := by
  cases o with
  | none => rw [rlD73, pln]; trivial
  | some p =>
    obtain ⟨h1, h2, h3⟩ := h p rfl
    rw [rlD73, rD, pln, plns, pln, plns, pln, plns]
    exact ⟨by omega, scal_str.lay _ (nm_ok72 h1), ⟨by omega, its_pln72 _ _ h2 (by omega)⟩, trivial⟩
end
section
open PySem L2

local macro_rules | `(tactic| walk_at "lk") => `(tactic| first | with_reducible exact lkA | (apply lkB; decide +kernel; walk_at "lk"))
local macro_rules | `(tactic| walk_at "mk") => `(tactic| first | with_reducible exact mkA | (apply mkB; decide +kernel; walk_at "mk"))
local macro_rules | `(tactic| walk_at "fk") => `(tactic| first | with_reducible exact fkA | exact fkN | (apply fkB; decide +kernel; walk_at "fk"))
local macro_rules | `(tactic| walk_at "cs") => `(tactic| first | exact List.mem_cons_self | (apply List.mem_cons_of_mem; walk_at "cs"))
local macro_rules | `(tactic| walk_at "w") => `(tactic| first
  | with_reducible refine w_fld ?_
  | ((with_reducible refine w_fldK (c := ?_) (fs := ?_) (v := ?_) ?_ ?_ ?_ ?_); rotate_left; rotate_left; rotate_left; (with_reducible assumption); (walk_at "cs"); (walk_at "fk"))
  | with_reducible refine w_setFld ?_
  | with_reducible refine w_new ?_
  | with_reducible refine w_methI ?_
  | ((with_reducible refine w_methK (c := ?_) (fs := ?_) (F := ?_) ?_ ?_ ?_ ?_); rotate_left; rotate_left; rotate_left; (with_reducible assumption); (walk_at "mk"); (walk_at "fk"))
  | with_reducible refine w_isC ?_
  | ((with_reducible refine w_isCK (c := ?_) (fs := ?_) (k := ?_) ?_ ?_ ?_); rotate_left; rotate_left; rotate_left; (with_reducible assumption); (walk_at "lk"))
  | with_reducible refine w_callD ?_
  | with_reducible refine w_mDSet ?_
  | with_reducible refine w_eq (nN_non _) ?_
  | with_reducible refine w_eq (nN_int _ _) ?_
  | with_reducible refine w_eq (nN_tup _ _) ?_
  | with_reducible refine w_eq (nN_ref _ _) ?_
  | with_reducible refine w_eq (iN_non _) ?_
  | with_reducible refine w_eq (iN_int _ _) ?_
  | with_reducible refine w_eq (iN_tup _ _) ?_
  | with_reducible refine w_eq (iN_ref _ _) ?_)
theorem shaped_L73 {n : Nat} {l : List D} (hl : plns n l) (hn : n ≤ 58) : SeqAt.shaped (.list (pyDs l)) = true := by
  obtain ⟨h3, h4⟩ := pys_lay n l hl
  unfold SeqAt.shaped
  rw [show (PyData.list (pyDs l)).canLay0 = PyData.canLayAll0 (pyDs l) by simp [PyData.canLay0], h3]
  have : (PyData.list (pyDs l)).depth ≤ 64 := by simp only [PyData.depth]; omega
  simpa using this
theorem w_lidxF73 {n : Nat} {a : D} {l : List D} {i : Nat} {h : MH} {Q : D → MH → Prop} {E : XE} (ha : pln n a) (hl : plns n l) (hn : n ≤ 58) (e : getL h i = some l) (hm : a ∈ l) (q : ∀ k : Nat, l[k]? = some a → (∀ j, j < k → l[j]? ≠ some a) → Q (.int k) h) : Sat (dLIdx (.ref i) [a] h) Q E := by
  have e2 : pyOf 60 h (.ref i) = some (.list (pyDs l)) := by
    show ((getL h i).bind fun l => (allSome (l.map (pyOf 59 h))).map PyData.list) = _
    rw [e]
    show (allSome (l.map (pyOf 59 h))).map PyData.list = _
    rw [pyOfs_pln n 59 h l hl (by omega)]
    rfl
  have hl' := plns_iff.mp hl
  have hex : ∃ j, (pyDs l).findIdx? (fun z => PyData.eqv z (pyD a)) = some j := by
    cases q : (pyDs l).findIdx? fun z => PyData.eqv z (pyD a) with
    | some j => exact ⟨j, rfl⟩
    | none =>
      have h1 := List.findIdx?_eq_none_iff.mp q (pyD a) (by rw [pyDs_eq]; exact List.mem_map.mpr ⟨a, hm, rfl⟩)
      rw [py_eqv n n a a ha ha] at h1
      simp at h1
  obtain ⟨j, ej⟩ := hex
  obtain ⟨hj, pj, hbf⟩ := List.findIdx?_eq_some_iff_getElem.mp ej
  have hjl : j < l.length := by rw [pyDs_eq, List.length_map] at hj; exact hj
  have eg : (pyDs l)[j] = pyD l[j] := by simp only [pyDs_eq, List.getElem_map]
  rw [eg, py_eqv n n _ a (hl' _ (List.getElem_mem hjl)) ha, decide_eq_true_iff] at pj
  have hfirst : ∀ m, m < j → l[m]? ≠ some a := fun m hm z => by
    have hml : m < l.length := by omega
    have h1 := hbf m hm
    have eg2 : (pyDs l)[m]'(by rw [pyDs_eq, List.length_map]; exact hml) = pyD l[m] := by simp only [pyDs_eq, List.getElem_map]
    rw [eg2, py_eqv n n _ a (hl' _ (List.getElem_mem hml)) ha] at h1
    rw [List.getElem?_eq_getElem hml] at z
    have := Option.some.inj z
    simp [this] at h1
  refine w_eq ?_ (q j (by rw [List.getElem?_eq_getElem hjl, pj]) hfirst)
  simp only [dLIdx, pyOf_pln n 60 h a ha (by omega), e2, ej]
  rw [if_pos ⟨shaped_L73 hl hn, py_shaped ha (by omega)⟩]

theorem strKeys_len73 : ∀ {kvs : List (Key × D)} {ks : List Str}, strKeys kvs = some ks → kvs.length = ks.length
  | [], ks, e => by cases e; rfl
  | (.inr x, v) :: l, ks, e => by
    rw [strKeys, Option.map_eq_some_iff] at e
    obtain ⟨ks', e1, rfl⟩ := e
    rw [List.length_cons, List.length_cons, strKeys_len73 e1]
  | (.inl x, v) :: l, ks, e => by cases e
def raised73 (h : MH) (k : Nat) (x : Str) (fs : List (Str × D)) (h' : MH) : Prop := h <+: h' ∧ x = Str.ofString "NoTurner" ∧ fs = [(Str.ofString "row", .int (k : Int))]
theorem k_readturner73 {l : List Nat} (hl : l.length ≤ 60000) (hc : l.count 40 ≤ 27) {h : MH} :
    Sat (m_read_turner_c16d3 [.str (mS l)] h) (fun y h' => h <+: h' ∧ ∃ ps, rd73 l = .ok ps ∧ y = .tup (ps.map rD)) (fun x fs h' => ∃ k, rd73 l = .no k ∧ raised73 h k x fs h') := by
  have esp : Txt.split (mS l) (Str.ofString ";") = (TL.spl [59] 0 [] l).map mS := by
    have := SX.split_S (a := l) (b := [59]) (by simp) (by decide)
    exact this
  have hT : (mS l).length ≤ 60000 := by rw [mS_len]; exact hl
  have ecs : Txt.stripChars (mS l) (Str.ofString " ") = mS (strp72 l) := by rw [sR_b72, strip_S72]
  have hrow : ∀ r ∈ rows73 l, r.length ≤ 60000 ∧ r.count 40 ≤ 27 := fun r hr => by
    have h1 := rows_mem73 hr
    have := h1.length_le
    have := h1.count_le 40
    omega
  unfold rd73
  generalize eT : mS l = T at *
  walk_at "fn"
  refine ⟨isStrD_str _ _, ?_⟩
  walk_at "go"
  refine w_stripC (by omega) ?_
  rw [ecs]
  walk_at "go"
  refine br_d (fun q => ?_) (fun q => ?_)
  · rw [show Str.ofString "" = mS [] from rfl, mS_inj] at q
    walk_at "go"
    rw [if_pos q]
    exact ⟨List.prefix_rfl, [], rfl, rfl⟩
  have q : ¬ strp72 l = [] := fun z => q (by rw [z]; rfl)
  rw [if_neg q]
  walk_at "go"
  refine ⟨isStrD_str _ _, ?_⟩
  walk_at "go"
  refine w_split (by decide +kernel) (by omega) ?_
  rw [esp]
  have hrl : (rows73 l).length = (TL.spl [59] 0 [] l).length := by unfold rows73; rw [List.length_map]
  have o1 := (Own.nil h).alloc (((TL.spl [59] 0 [] l).map mS).map .str)
  generalize hpt : TL.spl [59] 0 [] l = parts at *
  have hrows : rows73 l = parts.map strp72 := by unfold rows73; rw [hpt]
  have hplen : ∀ a ∈ parts, a.length ≤ 60000 := fun a ha => by
    have := jn_part72 (s := [59]) parts a ha
    have e := spl_joinL73 l []
    rw [hpt, List.nil_append] at e
    rw [e] at this
    omega
  generalize h ++ [MO.lst ((parts.map mS).map .str)] = h1 at *
  generalize h.length = iR at *
  have gR := o1.atL 0 rfl
  walk_at "go"
  refine br_d (fun q2 => ?_) (fun q2 => ?_)
  · walk_at "go"
    have : 12 < (rows73 l).length := by rw [hrl]; rw [List.length_map] at q2; omega
    rw [if_pos this]
    exact ⟨12, rfl, o1.pre, rfl, rfl⟩
  have h12 : ¬ 12 < (rows73 l).length := by rw [hrl]; rw [List.length_map] at q2; omega
  rw [if_neg h12]
  rw [hrl] at h12
  walk_at "go"
  refine o_compS (σ := Unit) (fun _ => [(iR, (parts.map mS).map .str)]) (fun k acc _ => acc = ((rows73 l).take k).map fun r => rlD73 (rule73 r)) (s0 := ()) o1 rfl (by simp; omega) (fun _ _ _ _ o => decide_eq_true (o.atL 1 rfl)) ?_ ?_
  · rintro i d acc _ c h2 hd hai hI ow
    rw [List.getElem?_map, List.getElem?_map, Option.map_map, Option.map_eq_some_iff] at hd
    obtain ⟨a, ea, rfl⟩ := hd
    have er : (rows73 l)[i]? = some (strp72 a) := by rw [hrows, List.getElem?_map, ea]; rfl
    have hrm := hrow _ (List.mem_of_getElem? er)
    have hal := hplen a (List.mem_of_getElem? ea)
    refine ⟨_, rfl, ?_⟩
    dsimp only [wipeD, List.set]
    dsimp only [Function.comp_apply]
    walk_at "go"
    refine ⟨isStrD_str _ _, ?_⟩
    walk_at "go"
    refine w_stripC (by rw [mS_len]; omega) ?_
    rw [sR_b72, strip_S72]
    walk_at "go"
    refine (k_readturn73 (by omega) (by omega)).mono ?_
    rintro y h3 ⟨p3, rfl⟩
    refine ⟨(), ow.ext p3, ?_⟩
    rw [hI, take_s7 er, List.map_append]
    rfl
  rintro acc _ c h2 hai hI ow
  have hacc : acc = (rows73 l).map fun r => rlD73 (rule73 r) := by
    rw [hI, List.length_map, List.length_map, ← hrl, List.take_length]
  clear hI hai
  subst hacc
  have hmm : ((rows73 l).map fun r => rlD73 (rule73 r)) = ((rows73 l).map rule73).map rlD73 := by rw [List.map_map]; rfl
  rw [hmm] at ow
  have gL := ow.atL 0 rfl
  have hwl : ∀ r ∈ rows73 l, ∀ p, rule73 r = some p → Nm p.1 ∧ It.nmss p.2 ∧ It.dps p.2 ≤ 28 := fun r hr p e => by
    obtain ⟨z1, z2, z3⟩ := rule_wl73 e
    have := (hrow r hr).2
    exact ⟨z1, z2, by omega⟩
  have hpl : plns 58 (((rows73 l).map rule73).map rlD73) := plns_iff.mpr fun d hd => by
    obtain ⟨o, ho, rfl⟩ := List.mem_map.mp hd
    obtain ⟨r, hr, rfl⟩ := List.mem_map.mp ho
    exact rl_pln73 fun p e => hwl r hr p e
  have hfm : (rows73 l).filterMap rule73 = ((rows73 l).map rule73).filterMap id := by rw [List.filterMap_map]; rfl
  have hlen12 : ((rows73 l).map rule73).length ≤ 12 := by rw [List.length_map, hrl]; omega
  rw [hfm]
  have hwl2 : ∀ p, some p ∈ (rows73 l).map rule73 → Nm p.1 := fun p hp => by
    obtain ⟨r, hr, e⟩ := List.mem_map.mp hp
    exact (hwl r hr p e).1
  clear hmm hfm hwl
  generalize (rows73 l).map rule73 = os at *
  walk_at "go"
  refine w_inP (n := 58) (by rw [pln]; trivial) hpl (by omega) gL ?_
  cases hN : fNone73 os 0 with
  | some k =>
    obtain ⟨j, ek, ej, hlt⟩ := fNone_some73 os 0 k hN
    rw [Nat.zero_add] at ek
    subst ek
    have ej2 : (os.map rlD73)[k]? = some .non := by rw [List.getElem?_map, ej]; rfl
    have hmem : D.non ∈ os.map rlD73 := List.mem_of_getElem? ej2
    rw [decide_eq_true hmem]
    walk_at "go"
    refine w_lidxF73 (n := 58) (by rw [pln]; trivial) hpl (by omega) gL hmem fun m em hm => ?_
    have : m = k := by
      rcases Nat.lt_trichotomy m k with z | z | z
      · obtain ⟨a, ea⟩ := hlt m z
        rw [List.getElem?_map, ea] at em
        cases em
      · exact z
      · exact (hm k z ej2).elim
    subst this
    exact ⟨m, rfl, ow.pre, rfl, rfl⟩
  | none =>
    obtain ⟨ps, rfl⟩ := fNone_none73 os 0 hN
    have hnm : D.non ∉ (ps.map some).map rlD73 := fun z => by
      obtain ⟨o, ho, e⟩ := List.mem_map.mp z
      obtain ⟨p, hp, rfl⟩ := List.mem_map.mp ho
      cases e
    have hps : (ps.map some).map rlD73 = ps.map rD := by rw [List.map_map]; rfl
    have hfl : (ps.map some).filterMap id = ps := by rw [List.filterMap_map]; simp
    rw [decide_eq_false hnm]
    rw [hps] at ow gL
    rw [hfl]
    rw [List.length_map] at hlen12
    dsimp only
    walk_at "go"
    refine c_dict0 ow.cel fun iD h3 c1 => ?_
    have gL3 := c1.atL 1 rfl
    walk_at "go"
    refine w_loop0 (fun k ρ h' => ∃ (kvs : List (Key × D)) (o4 : Option D), ρ = [some (.str T), some (.ref iR), some (.ref c), some (.ref iD), o4, none] ∧ Cel h h' [(iD, .dK kvs), (c, .lst (ps.map rD)), (iR, .lst ((parts.map mS).map .str))] ∧ strKeys kvs = some ((ps.map (·.1)).take k) ∧ kvs.length ≤ k ∧ fDup73 [] (ps.map (·.1)) 0 = fDup73 ((ps.map (·.1)).take k) ((ps.map (·.1)).drop k) k)
      ⟨[], none, rfl, c1, rfl, by simp, rfl⟩ (fun _ _ _ ⟨_, _, _, cc, _⟩ => decide_eq_true (cc.atL 1 rfl)) ?_ ?_
    · rintro k d ρ h4 hd ⟨kvs, o4, rfl, cc, hks, hkl, hdup⟩
      rw [List.getElem?_map, Option.map_eq_some_iff] at hd
      obtain ⟨p, ep, rfl⟩ := hd
      have hk : k < ps.length := (List.getElem?_eq_some_iff.mp ep).1
      have e4 : (ps.map (·.1))[k]? = some p.1 := by rw [List.getElem?_map, ep]; rfl
      have hk2 : k < (ps.map (·.1)).length := by rw [List.length_map]; exact hk
      have edr : (ps.map (·.1)).drop k = p.1 :: (ps.map (·.1)).drop (k + 1) := by
        rw [List.drop_eq_getElem_cons hk2, (List.getElem?_eq_some_iff.mp e4).2]
      rw [edr, fDup73] at hdup
      refine ⟨_, rfl, ?_⟩
      dsimp only [List.set]
      rw [rD]
      walk_at "go"
      refine w_dIn rfl (cc.at 0 rfl) ?_
      rw [strKeys_val _ hks]
      walk_at "go"
      refine br_d (fun z => ?_) (fun z => ?_)
      · rw [if_pos z] at hdup
        have hkk := strKeys_len73 hks
        rw [List.length_take, List.length_map] at hkk
        walk_at "go"
        refine w_lenK (cc.at 0 rfl) ?_
        rw [hdup]
        exact ⟨k, rfl, cc.pre, rfl, by rw [hkk, Nat.min_eq_left (by omega)]⟩
      · rw [if_neg z] at hdup
        walk_at "go"
        refine c_dSet rfl cc 0 rfl (by omega) fun h5 c5 => ?_
        refine ⟨_, _, rfl, c5, ?_, ?_, ?_⟩
        · rw [strKeys_put _ _ hks, if_neg z, take_snP e4]
        · have := putKD_len kvs (.inr p.1) (.bl true); omega
        · rw [hdup, take_snP e4]
    rintro ρ h4 ⟨kvs, o4, rfl, cc, hks, hkl, hdup⟩
    have gL4 := cc.atL 1 rfl
    rw [List.length_map] at hdup
    rw [List.drop_of_length_le (by rw [List.length_map]; exact Nat.le_refl _), fDup73] at hdup
    rw [hdup]
    walk_at "go"
    exact ⟨cc.pre, ps, rfl, rfl⟩
end
section
open PySem L2

local macro_rules | `(tactic| walk_at "lk") => `(tactic| first | with_reducible exact lkA | (apply lkB; decide +kernel; walk_at "lk"))
local macro_rules | `(tactic| walk_at "mk") => `(tactic| first | with_reducible exact mkA | (apply mkB; decide +kernel; walk_at "mk"))
local macro_rules | `(tactic| walk_at "fk") => `(tactic| first | with_reducible exact fkA | exact fkN | (apply fkB; decide +kernel; walk_at "fk"))
local macro_rules | `(tactic| walk_at "cs") => `(tactic| first | exact List.mem_cons_self | (apply List.mem_cons_of_mem; walk_at "cs"))
local macro_rules | `(tactic| walk_at "w") => `(tactic| first
  | with_reducible refine w_fld ?_
  | ((with_reducible refine w_fldK (c := ?_) (fs := ?_) (v := ?_) ?_ ?_ ?_ ?_); rotate_left; rotate_left; rotate_left; (with_reducible assumption); (walk_at "cs"); (walk_at "fk"))
  | with_reducible refine w_setFld ?_
  | with_reducible refine w_new ?_
  | with_reducible refine w_methI ?_
  | ((with_reducible refine w_methK (c := ?_) (fs := ?_) (F := ?_) ?_ ?_ ?_ ?_); rotate_left; rotate_left; rotate_left; (with_reducible assumption); (walk_at "mk"); (walk_at "fk"))
  | with_reducible refine w_isC ?_
  | ((with_reducible refine w_isCK (c := ?_) (fs := ?_) (k := ?_) ?_ ?_ ?_); rotate_left; rotate_left; rotate_left; (with_reducible assumption); (walk_at "lk"))
  | with_reducible refine w_callD ?_
  | with_reducible refine w_mDSet ?_
  | with_reducible refine w_eq (nN_non _) ?_
  | with_reducible refine w_eq (nN_int _ _) ?_
  | with_reducible refine w_eq (nN_tup _ _) ?_
  | with_reducible refine w_eq (nN_ref _ _) ?_
  | with_reducible refine w_eq (iN_non _) ?_
  | with_reducible refine w_eq (iN_int _ _) ?_
  | with_reducible refine w_eq (iN_tup _ _) ?_
  | with_reducible refine w_eq (iN_ref _ _) ?_)
theorem pyOf_L73 {n : Nat} {l : List D} {i : Nat} {h : MH} (hl : plns n l) (hn : n ≤ 58) (e : getL h i = some l) : pyOf 60 h (.ref i) = some (.list (pyDs l)) := by
  show ((getL h i).bind fun l => (allSome (l.map (pyOf 59 h))).map PyData.list) = _
  rw [e]
  show (allSome (l.map (pyOf 59 h))).map PyData.list = _
  rw [pyOfs_pln n 59 h l hl (by omega)]
  rfl
theorem eqD_L73 {n : Nat} {l m : List D} {i j : Nat} {h : MH} (hl : plns n l) (hm : plns n m) (hn : n ≤ 58) (ei : getL h i = some l) (ej : getL h j = some m) : eqD (.ref i) (.ref j) h = some (decide (l = m)) := by
  unfold eqD
  simp only [scalD]
  rw [pyOf_L73 hl hn ei, pyOf_L73 hm hn ej]
  simp only
  rw [if_pos ⟨shaped_L73 hl hn, shaped_L73 hm hn⟩]
  simp only [PyData.eqv]
  rw [py_eqvs n n l m hl hm]
  simp
theorem spl_len73 : ∀ (l acc : List Nat), (TL.spl [59] 0 acc l).length ≤ l.length + 1
  | [], acc => by rw [TL.spl_nil]; simp
  | c :: r, acc => by
    cases h : TL.pre [59] (c :: r) with
    | true =>
      rw [TL.spl_hit h]
      have := spl_len73 r []
      show (TL.spl [59] 0 [] r).length + 1 ≤ r.length + 1 + 1
      omega
    | false =>
      rw [TL.spl_miss h, List.length_cons]
      have := spl_len73 r (acc ++ [c])
      omega
def rdD73 : Rd73 → D
  | .ok ps => .tup (ps.map rD)
  | .no k => .int (k : Int)
theorem k_read73b {l : List Nat} (hl : l.length ≤ 60000) (hc : l.count 40 ≤ 27) (hok : ∀ c ∈ l, c ≤ 127) {h : MH} :
    Sat (m_read_e7a1e [.str (mS l)] h) (fun y h' => h <+: h' ∧ y = rdD73 (rd73 l)) noX := by
  have esp : Txt.split (mS l) (Str.ofString ";") = (TL.spl [59] 0 [] l).map mS := by
    have := SX.split_S (a := l) (b := [59]) (by simp) (by decide)
    exact this
  have hT : (mS l).length ≤ 60000 := by rw [mS_len]; exact hl
  have hrow : ∀ r ∈ rows73 l, r.length ≤ 60000 ∧ r.count 40 ≤ 27 ∧ ∀ c ∈ r, c ≤ 127 := fun r hr => by
    have h1 := rows_mem73 hr
    have := h1.length_le
    have := h1.count_le 40
    exact ⟨by omega, by omega, fun c hc => hok c (h1.subset hc)⟩
  have hrl : (rows73 l).length = (TL.spl [59] 0 [] l).length := by unfold rows73; rw [List.length_map]
  have hpl : (TL.spl [59] 0 [] l).length ≤ 60001 := by have := spl_len73 l []; omega
  generalize hpt : TL.spl [59] 0 [] l = parts at *
  have hrows : rows73 l = parts.map strp72 := by unfold rows73; rw [hpt]
  have hplen : ∀ a ∈ parts, a.length ≤ 60000 := fun a ha => by
    have := jn_part72 (s := [59]) parts a ha
    have e := spl_joinL73 l []
    rw [hpt, List.nil_append] at e
    rw [e] at this
    omega
  walk_at "fn"
  refine ⟨isStrD_str _ _, ?_⟩
  walk_at "go"
  refine w_split (by decide +kernel) (by omega) ?_
  rw [esp]
  have o1 := (Own.nil h).alloc ((parts.map mS).map .str)
  generalize h ++ [MO.lst ((parts.map mS).map .str)] = h1 at *
  generalize h.length = iR at *
  have gR := o1.atL 0 rfl
  walk_at "go"
  refine o_compS (σ := Unit) (fun _ => [(iR, (parts.map mS).map .str)]) (fun k acc _ => acc = (((rows73 l).take k).map mS).map .str) (s0 := ()) o1 rfl (by simp; omega) (fun _ _ _ _ o => decide_eq_true (o.atL 1 rfl)) ?_ ?_
  · rintro i d acc _ c h2 hd hai hI ow
    rw [List.getElem?_map, List.getElem?_map, Option.map_map, Option.map_eq_some_iff] at hd
    obtain ⟨a, ea, rfl⟩ := hd
    have er : (rows73 l)[i]? = some (strp72 a) := by rw [hrows, List.getElem?_map, ea]; rfl
    have hal := hplen a (List.mem_of_getElem? ea)
    refine ⟨_, rfl, ?_⟩
    dsimp only [wipeD, List.set]
    dsimp only [Function.comp_apply]
    walk_at "go"
    refine ⟨isStrD_str _ _, ?_⟩
    walk_at "go"
    refine w_stripC (by rw [mS_len]; omega) ?_
    rw [sR_b72, strip_S72]
    refine ⟨(), ow, ?_⟩
    rw [hI, take_s7 er, List.map_append, List.map_append]
    rfl
  rintro acc _ c h2 hai hI ow
  have hacc : acc = ((rows73 l).map mS).map .str := by
    rw [hI, List.length_map, List.length_map, ← hrl, List.take_length]
  clear hI hai
  subst hacc
  have ow := ow.head
  have gL := ow.atL 0 rfl
  have hrl2 : (rows73 l).length = parts.length := hrl
  walk_at "go"
  refine o_new ow (by simp) fun iE h3 o3 => ?_
  have hpR : plns 1 (((rows73 l).map mS).map .str) := plns_iff.mpr fun d hd => by
    obtain ⟨x, hx, rfl⟩ := List.mem_map.mp hd
    obtain ⟨r, hr, rfl⟩ := List.mem_map.mp hx
    rw [pln]
    refine scal_str.lay _ fun c hc => ?_
    have := (hrow r hr).2.2 c hc
    omega
  have hpE : plns 1 [D.str (Str.ofString "")] := by
    rw [plns, plns, pln]
    exact ⟨scal_str.lay _ (fun c hc => by cases hc), trivial⟩
  walk_at "go"
  refine w_eq (dEq_of (eqD_L73 hpR hpE (by omega) (o3.atL 1 rfl) (o3.atL 0 rfl))) ?_
  have heq : (((rows73 l).map mS).map D.str = [D.str (Str.ofString "")]) ↔ strp72 l = [] := by
    rw [← rows_blank73]
    constructor
    · intro e
      cases hr : rows73 l with
      | nil => rw [hr] at e; cases e
      | cons r t =>
        rw [hr] at e
        cases t with
        | nil =>
          have h1 : D.str (mS r) = D.str (mS []) := (List.cons.inj e).1
          have h2 : mS r = mS [] := by injection h1
          rw [mS_inj.mp h2]
        | cons b t => have := congrArg List.length e; simp at this
    · intro e; rw [e]; rfl
  have ow3 : Own h h3 [(c, ((rows73 l).map mS).map .str)] := o3.tail
  have gL3 := ow3.atL 0 rfl
  walk_at "go"
  unfold rd73
  refine br_d (fun q => ?_) (fun q => ?_)
  · rw [if_pos (heq.mp q)]
    walk_at "go"
    exact ⟨o3.pre, rfl⟩
  rw [if_neg fun z => q (heq.mpr z)]
  walk_at "go"
  refine br_d (fun q2 => ?_) (fun q2 => ?_)
  · have : 12 < (rows73 l).length := by rw [List.length_map] at q2; omega
    rw [if_pos this]
    walk_at "go"
    exact ⟨o3.pre, rfl⟩
  have h12 : ¬ 12 < (rows73 l).length := by rw [List.length_map] at q2; omega
  rw [if_neg h12]
  walk_at "go"
  refine o_compS (σ := Unit) (fun _ => [(c, ((rows73 l).map mS).map .str)]) (fun k acc _ => acc = ((rows73 l).take k).map fun r => rlD73 (rule73 r)) (s0 := ()) ow3 rfl (by simp; omega) (fun _ _ _ _ o => decide_eq_true (o.atL 1 rfl)) ?_ ?_
  · rintro i d acc _ c9 h4 hd hai hI ow
    rw [List.getElem?_map, List.getElem?_map, Option.map_map, Option.map_eq_some_iff] at hd
    obtain ⟨r, er, rfl⟩ := hd
    have hrm := hrow _ (List.mem_of_getElem? er)
    refine ⟨_, rfl, ?_⟩
    dsimp only [wipeD, List.set]
    dsimp only [Function.comp_apply]
    walk_at "go"
    refine (k_ruleof73 (by omega) (by omega)).mono ?_
    rintro y h5 ⟨p3, rfl⟩
    refine ⟨(), ow.ext p3, ?_⟩
    rw [hI, take_s7 er, List.map_append]
    rfl
  rintro acc _ c2 h4 hai hI ow4
  have hacc : acc = ((rows73 l).map rule73).map rlD73 := by
    rw [hI, List.length_map, List.length_map, List.take_length, List.map_map]
    rfl
  clear hI hai
  subst hacc
  have ow4 := ow4.head
  have gL4 := ow4.atL 0 rfl
  have hfm : (rows73 l).filterMap rule73 = ((rows73 l).map rule73).filterMap id := by rw [List.filterMap_map]; rfl
  have hlen12 : ((rows73 l).map rule73).length ≤ 12 := by rw [List.length_map]; omega
  rw [hfm]
  generalize (rows73 l).map rule73 = os at *
  walk_at "go"
  refine OS.mono (N := fun ρ h' => ∃ o3 : Option D, ρ = [some (.str (mS l)), some (.ref c), some (.ref c2), o3, none, none, none] ∧ h' = h4 ∧ fNone73 os 0 = none) ?_ ?_ (fun _ _ z => z) (fun _ _ z => z) (fun _ _ z => z) (fun _ _ _ _ z => z)
  · refine w_loop0 (fun k ρ h' => ∃ o3 : Option D, ρ = [some (.str (mS l)), some (.ref c), some (.ref c2), o3, none, none, none] ∧ h' = h4 ∧ fNone73 os 0 = fNone73 (os.drop k) k) ⟨none, rfl, rfl, rfl⟩ (fun _ _ _ _ => rfl) ?_ ?_
    · rintro k d ρ h5 hd ⟨o3, rfl, rfl, hf⟩
      obtain ⟨hkv, rfl⟩ := rangeD_get hd
      have hk : k < os.length := by simpa using hkv
      have eo : os[k]? = some os[k] := List.getElem?_eq_some_iff.mpr ⟨hk, rfl⟩
      have edr : os.drop k = os[k] :: os.drop (k + 1) := List.drop_eq_getElem_cons hk
      rw [edr] at hf
      generalize os[k] = o at *
      have a1 : atI (os.map rlD73) (0 + (k : Int)) = some (rlD73 o) := by rw [Int.zero_add]; exact atI_at (by rw [List.getElem?_map, eo]; rfl)
      refine ⟨_, rfl, ?_⟩
      dsimp only [List.set]
      walk_at "go"
      cases o with
      | none =>
        rw [rlD73]
        walk_at "go"
        rw [hf, fNone73]
        exact ⟨ow4.pre, by rw [Int.zero_add]; rfl⟩
      | some p =>
        rw [rlD73, rD]
        walk_at "go"
        exact ⟨_, rfl, rfl, hf⟩
    · rintro ρ h5 ⟨o3, rfl, rfl, hf⟩
      refine ⟨o3, rfl, rfl, ?_⟩
      rw [hf, List.drop_of_length_le (by rw [rangeD_length]; simp), fNone73]
  rintro ρ h5 ⟨o3, rfl, rfl, hN⟩
  obtain ⟨ps, rfl⟩ := fNone_none73 os 0 hN
  have hps : (ps.map some).map rlD73 = ps.map rD := by rw [List.map_map]; rfl
  have hfl : (ps.map some).filterMap id = ps := by rw [List.filterMap_map]; simp
  rw [hN, hfl]
  rw [hps] at ow4 gL4
  rw [List.length_map] at hlen12
  dsimp only
  walk_at "go"
  refine o_compS (σ := Unit) (fun _ => [(c2, ps.map rD)]) (fun k acc _ => acc = ((ps.take k).map (·.1)).map .str) (s0 := ()) ow4 rfl (by rw [List.length_map]; omega) (fun _ _ _ _ o => decide_eq_true (o.atL 1 rfl)) ?_ ?_
  · rintro i d acc _ c9 h6 hd hai hI ow
    rw [List.getElem?_map, Option.map_eq_some_iff] at hd
    obtain ⟨p, ep, rfl⟩ := hd
    refine ⟨_, rfl, ?_⟩
    dsimp only [wipeD, List.set]
    rw [rD]
    walk_at "go"
    refine ⟨(), ow, ?_⟩
    rw [hI, take_s7 ep, List.map_append, List.map_append]
    rfl
  rintro acc _ c3 h6 hai hI ow6
  have hacc : acc = (ps.map (·.1)).map .str := by
    rw [hI, List.length_map, List.take_length]
  clear hI hai
  subst hacc
  have g3 := ow6.atL 0 rfl
  have hnl : (ps.map (·.1)).length ≤ 12 := by rw [List.length_map]; exact hlen12
  walk_at "go"
  refine w_loop0 (fun k ρ h' => ∃ o3 : Option D, ρ = [some (.str (mS l)), some (.ref c), some (.ref c2), o3, some (.ref c3), none, none] ∧ Own h h' [(c3, (ps.map (·.1)).map .str), (c2, ps.map rD)] ∧ fDup73 [] (ps.map (·.1)) 0 = fDup73 ((ps.map (·.1)).take k) ((ps.map (·.1)).drop k) k) ⟨o3, rfl, ow6, rfl⟩ (fun _ _ _ _ => rfl) ?_ ?_
  · rintro k d ρ h7 hd ⟨o4, rfl, ow7, hf⟩
    obtain ⟨hkv, rfl⟩ := rangeD_get hd
    have hk : k < ps.length := by simpa using hkv
    have hk2 : k < (ps.map (·.1)).length := by rw [List.length_map]; exact hk
    have eo : (ps.map (·.1))[k]? = some (ps.map (·.1))[k] := List.getElem?_eq_some_iff.mpr ⟨hk2, rfl⟩
    have edr : (ps.map (·.1)).drop k = (ps.map (·.1))[k] :: (ps.map (·.1)).drop (k + 1) := List.drop_eq_getElem_cons hk2
    rw [edr, fDup73] at hf
    generalize (ps.map (·.1))[k] = x at *
    have a1 : atI ((ps.map (·.1)).map D.str) (0 + (k : Int)) = some (.str x) := by rw [Int.zero_add]; exact atI_at (by rw [List.getElem?_map, eo]; rfl)
    have gL7 := ow7.atL 0 rfl
    refine ⟨_, rfl, ?_⟩
    dsimp only [List.set]
    walk_at "go"
    refine o_sl ow7 gL7 fun iS h8 o8 => ?_
    rw [cutT21 (by omega), ← List.map_take] at o8
    have ek : (0 + (k : Int)).toNat = k := by omega
    rw [ek] at o8
    refine w_inLsP (o8.atL 0 rfl) ?_
    walk_at "go"
    refine br_d (fun z => ?_) (fun z => ?_)
    · rw [if_pos z] at hf
      rw [hf]
      walk_at "go"
      exact ⟨o8.pre, by rw [Int.zero_add]; rfl⟩
    · rw [if_neg z] at hf
      walk_at "go"
      exact ⟨_, rfl, o8.tail, by rw [hf, take_snP eo]⟩
  · rintro ρ h7 ⟨o4, rfl, ow7, hf⟩
    rw [List.drop_of_length_le (by rw [rangeD_length]; simp), fDup73] at hf
    rw [hf]
    have gL7 := ow7.atL 1 rfl
    walk_at "go"
    exact ⟨ow7.pre, rfl⟩
end
section
open PySem L2

local macro_rules | `(tactic| walk_at "lk") => `(tactic| first | with_reducible exact lkA | (apply lkB; decide +kernel; walk_at "lk"))
local macro_rules | `(tactic| walk_at "mk") => `(tactic| first | with_reducible exact mkA | (apply mkB; decide +kernel; walk_at "mk"))
local macro_rules | `(tactic| walk_at "fk") => `(tactic| first | with_reducible exact fkA | exact fkN | (apply fkB; decide +kernel; walk_at "fk"))
local macro_rules | `(tactic| walk_at "cs") => `(tactic| first | exact List.mem_cons_self | (apply List.mem_cons_of_mem; walk_at "cs"))
local macro_rules | `(tactic| walk_at "w") => `(tactic| first
  | with_reducible refine w_fld ?_
  | ((with_reducible refine w_fldK (c := ?_) (fs := ?_) (v := ?_) ?_ ?_ ?_ ?_); rotate_left; rotate_left; rotate_left; (with_reducible assumption); (walk_at "cs"); (walk_at "fk"))
  | with_reducible refine w_setFld ?_
  | with_reducible refine w_new ?_
  | with_reducible refine w_methI ?_
  | ((with_reducible refine w_methK (c := ?_) (fs := ?_) (F := ?_) ?_ ?_ ?_ ?_); rotate_left; rotate_left; rotate_left; (with_reducible assumption); (walk_at "mk"); (walk_at "fk"))
  | with_reducible refine w_isC ?_
  | ((with_reducible refine w_isCK (c := ?_) (fs := ?_) (k := ?_) ?_ ?_ ?_); rotate_left; rotate_left; rotate_left; (with_reducible assumption); (walk_at "lk"))
  | with_reducible refine w_callD ?_
  | with_reducible refine w_mDSet ?_
  | with_reducible refine w_eq (nN_non _) ?_
  | with_reducible refine w_eq (nN_int _ _) ?_
  | with_reducible refine w_eq (nN_tup _ _) ?_
  | with_reducible refine w_eq (nN_ref _ _) ?_
  | with_reducible refine w_eq (iN_non _) ?_
  | with_reducible refine w_eq (iN_int _ _) ?_
  | with_reducible refine w_eq (iN_tup _ _) ?_
  | with_reducible refine w_eq (iN_ref _ _) ?_)
/-! texts changed -/
def Tx73 (n c : Nat) (l : List Nat) : Prop := l.length ≤ n ∧ l.count 40 ≤ c ∧ ∀ x ∈ l, x ≤ 127
theorem Tx73.app {n m c d : Nat} {a b : List Nat} (x : Tx73 n c a) (y : Tx73 m d b) : Tx73 (n + m) (c + d) (a ++ b) := by
  refine ⟨by rw [List.length_append]; have := x.1; have := y.1; omega, by rw [List.count_append]; have := x.2.1; have := y.2.1; omega, fun z hz => ?_⟩
  rcases List.mem_append.mp hz with h | h
  · exact x.2.2 z h
  · exact y.2.2 z h
theorem Tx73.sub {n c : Nat} {a b : List Nat} (x : Tx73 n c a) (s : b.Sublist a) : Tx73 n c b := ⟨Nat.le_trans s.length_le x.1, Nat.le_trans (s.count_le 40) x.2.1, fun z hz => x.2.2 z (s.subset hz)⟩
theorem Tx73.le {n m c d : Nat} {a : List Nat} (x : Tx73 n c a) (h1 : n ≤ m) (h2 : c ≤ d) : Tx73 m d a := ⟨Nat.le_trans x.1 h1, Nat.le_trans x.2.1 h2, x.2.2⟩
theorem Tx73.ins {n m c d a b : Nat} {l s : List Nat} (x : Tx73 n c l) (y : Tx73 m d s) (h : a ≤ b) : Tx73 (n + m) (c + d) (l.take a ++ s ++ l.drop b) := by
  have h0 : (l.take a ++ l.drop b).Sublist l := by
    have h1 : (l.drop b).Sublist (l.drop a) := by
      obtain ⟨k, rfl⟩ := Nat.le.dest h
      rw [← List.drop_drop]
      exact List.drop_sublist _ _
    have h2 := List.Sublist.append (List.Sublist.refl (l.take a)) h1
    rw [List.take_append_drop] at h2
    exact h2
  have z := (x.sub h0).app y
  refine ⟨?_, ?_, fun w hw => z.2.2 w ?_⟩
  · have := z.1
    simp only [List.length_append] at this ⊢
    omega
  · have := z.2.1
    simp only [List.count_append] at this ⊢
    omega
  · simp only [List.mem_append] at hw ⊢
    rcases hw with (h | h) | h
    · exact .inl (.inl h)
    · exact .inr h
    · exact .inl (.inr h)
theorem Tx73.del {n c a : Nat} {l : List Nat} (x : Tx73 n c l) : Tx73 n c (l.take a ++ l.drop (a + 1)) := by
  have := x.ins (s := []) (m := 0) (d := 0) (a := a) (b := a + 1) ⟨Nat.le_refl _, Nat.le_refl _, fun z hz => by cases hz⟩ (by omega)
  rw [List.append_nil] at this
  exact this
theorem nm_tx73 {x : Str} (h : Nm x) : Tx73 8 0 x.cps.toList := by
  refine ⟨by rw [← str_len]; exact h.2.1, Nat.le_of_eq (List.count_eq_zero.mpr fun z => ?_), fun c hc => ?_⟩
  · have := h.2.2 _ z; unfold Ltr at this; omega
  · have := h.2.2 _ hc; unfold Ltr at this; omega
def sig73 : List D := [.str (Str.ofString "*"), .str (Str.ofString "("), .str (Str.ofString ")"), .str (Str.ofString " "), .str (Str.ofString "-"), .str (Str.ofString ">"), .str (Str.ofString ";"), .str (Str.ofString "a"), .str (Str.ofString "z"), .str (Str.ofString "A"), .str (Str.ofString "1"), .str (Str.ofString ","), .str (Str.ofString "\n"), .str (Str.ofString "&"), .str (Str.ofString "  "), .str (Str.ofString " * "), .str (Str.ofString "()"), .str (Str.ofString "abcdefghi")]
theorem sig_one73 (x : Str) (h : Tx73 9 1 x.cps.toList) : ∃ s, D.str x = .str (mS s) ∧ Tx73 9 1 s := ⟨x.cps.toList, by rw [mS_of], h⟩
theorem sig_ok73 : ∀ d ∈ sig73, ∃ s, d = .str (mS s) ∧ Tx73 9 1 s := by
  intro d hd
  unfold sig73 at hd
  simp only [List.mem_cons, List.not_mem_nil, or_false] at hd
  rcases hd with rfl | rfl | rfl | rfl | rfl | rfl | rfl | rfl | rfl | rfl | rfl | rfl | rfl | rfl | rfl | rfl | rfl | rfl <;> exact sig_one73 _ (by unfold Tx73; decide +kernel)
theorem tx_jn73 {b : Nat} : ∀ l : List (List Nat), (∀ a ∈ l, Tx73 b 0 a) → Tx73 (l.length * (b + 2)) 0 (TL.joinL [59, 32] l)
  | [], _ => ⟨by simp [TL.joinL], by simp [TL.joinL], fun x hx => by simp [TL.joinL] at hx⟩
  | [a], h => (h a (by simp)).le (by simp) (Nat.le_refl _)
  | a :: c :: l, h => by
    rw [jn_cons72]
    have h1 := h a (by simp)
    have h2 := tx_jn73 (c :: l) fun x hx => h x (List.mem_cons_of_mem _ hx)
    have z : Tx73 2 0 [59, 32] := by unfold Tx73; decide
    refine (h1.app (z.app h2)).le ?_ (by omega)
    simp only [List.length_cons, Nat.succ_mul]
    omega
theorem cc_changed73 {h0 : MH} {ns : List Str} {ip i : Nat} (hns : ∀ x ∈ ns, Nm x) (h9 : ns.length = 9) (gp : getL h0 ip = some (ns.map .str)) {tl : List D} {h : MH} (ow : Own h0 h [(i, tl)]) (ht : Tp tl) {l : List Nat} {n c : Nat} (x : Tx73 n c l) (hn : n ≤ 50000) :
    Sat (m_changed_d6066 [.str (mS l), .ref i, .ref ip] h) (fun d h' => ∃ l' tl', d = .str (mS l') ∧ Tx73 (n + 70) (c + 1) l' ∧ Tp tl' ∧ Own h0 h' [(i, tl')]) noX := by
  have hll : (mS l).length ≤ 1000000 := by rw [mS_len]; have := x.1; omega
  walk_at "fn"
  refine o_new ow (by simp) fun iS h1 o1 => ?_
  have o1 : Own h0 h1 [(iS, sig73), (i, tl)] := o1
  walk_at "go"
  refine (c_next o1 1 rfl ht (by decide)).mono ?_
  rintro d h2 ⟨v2, t2, rfl, v20, v21, ht2, o2⟩
  dsimp only [List.set] at o2
  walk_at "go"
  rw [mS_len]
  refine (c_next o2 1 rfl ht2 (by omega)).mono ?_
  rintro d h3 ⟨v3, t3, rfl, v30, v31, ht3, o3⟩
  dsimp only [List.set] at o3
  walk_at "go"
  refine (c_next o3 1 rfl ht3 (by decide)).mono ?_
  rintro d h4 ⟨v4, t4, rfl, v40, v41, ht4, o4⟩
  dsimp only [List.set] at o4
  obtain ⟨ds, a4, e4⟩ := atI_in (l := sig73) v40 (by exact v41)
  obtain ⟨s, rfl, xs⟩ := sig_ok73 ds (List.mem_of_getElem? e4)
  have gS := o4.atL 0 rfl
  have hsl : (mS s).length ≤ 9 := by rw [mS_len]; exact xs.1
  obtain ⟨a, rfl⟩ := Int.eq_ofNat_of_zero_le v30
  have x1 := x.1
  have o5 := o4.tail
  have hcl := cut_to73 (a := l) (n := a)
  have hcr := cut_from73 (a := l) (n := a) rfl
  have hcr1 := cut_from73 (a := l) (n := a + 1) (i := (a : Int) + 1) (by omega)
  have ht1 : (mS (l.take a)).length ≤ 50000 := by rw [mS_len, List.length_take]; omega
  have ht2' : (mS (l.drop a)).length ≤ 50000 := by rw [mS_len, List.length_drop]; omega
  have ht3' : (mS (l.drop (a + 1))).length ≤ 50000 := by rw [mS_len, List.length_drop]; omega
  walk_at "go"
  refine br_d (fun q => ?_) (fun q => ?_)
  · walk_at "go"
    rw [hcl, hcr1]
    refine w_addS (by omega) ?_
    rw [mS_app]
    exact ⟨_, t4, rfl, x.del.le (by omega) (by omega), ht4, o5⟩
  walk_at "go"
  refine br_d (fun q => ?_) (fun q => ?_)
  · walk_at "go"
    rw [hcl]
    refine w_addS (by omega) ?_
    rw [mS_app]
    have hts : (mS (l.take a ++ s)).length ≤ 60000 := by rw [← mS_app, Str.length_append]; omega
    walk_at "go"
    rw [hcr]
    refine w_addS (by omega) ?_
    rw [mS_app]
    exact ⟨_, t4, rfl, (x.ins xs (Nat.le_refl a)).le (by omega) (by omega), ht4, o5⟩
  walk_at "go"
  refine br_d (fun q => ?_) (fun q => ?_)
  · walk_at "go"
    rw [hcl]
    refine w_addS (by omega) ?_
    rw [mS_app]
    have hts : (mS (l.take a ++ s)).length ≤ 60000 := by rw [← mS_app, Str.length_append]; omega
    walk_at "go"
    rw [hcr1]
    refine w_addS (by omega) ?_
    rw [mS_app]
    exact ⟨_, t4, rfl, (x.ins xs (Nat.le_succ a)).le (by omega) (by omega), ht4, o5⟩
  walk_at "go"
  refine br_d (fun q => ?_) (fun q => ?_)
  · walk_at "go"
    have hl2 : (mS l).length ≤ 50000 := by rw [mS_len]; omega
    refine w_addS (by rw [sR_semb72, mS_len [59, 32]]; simp only [List.length_cons, List.length_nil]; omega) ?_
    rw [sR_semb72, mS_app]
    have gp4 := o5.getL gp
    walk_at "go"
    refine (c_next o5 0 rfl ht4 (by decide)).mono ?_
    rintro d h5 ⟨v5, t5, rfl, v50, v51, ht5, o6⟩
    dsimp only [List.set] at o6
    obtain ⟨y, hy, ay⟩ := pool_at h9 v50 v51
    have xy := nm_tx73 (hns y hy)
    have yl := (hns y hy).2.1
    have gp5 := o6.getL gp
    have hl3 : (mS (l ++ [59, 32])).length ≤ 50002 := by rw [mS_len, List.length_append]; simp only [List.length_cons, List.length_nil]; omega
    have eA : Str.ofString " -> *" = mS [32, 45, 62, 32, 42] := by decide +kernel
    walk_at "go"
    refine w_addS (by rw [Str.length_append, eA, mS_len [32, 45, 62, 32, 42]]; simp only [List.length_cons, List.length_nil]; omega) ?_
    rw [eA, ← mS_of y, mS_app, mS_app]
    have z1 : Tx73 2 0 [59, 32] := by unfold Tx73; decide
    have z2 : Tx73 5 0 [32, 45, 62, 32, 42] := by unfold Tx73; decide
    exact ⟨_, t5, rfl, (((x.app z1).app xy).app z2).le (by omega) (by omega), ht5, o6⟩
  have hl2 : (mS l).length ≤ 50000 := by rw [mS_len]; omega
  have gp4 := o5.getL gp
  walk_at "go"
  refine w_addS (by rw [sR_sem72, mS_len [59]]; simp only [List.length_cons, List.length_nil]; omega) ?_
  rw [sR_sem72, mS_app]
  walk_at "go"
  refine ⟨isStrD_str _ _, ?_⟩
  walk_at "go"
  refine o_sl o5 gp4 fun iC h5 o6 => ?_
  rw [cutT21 (by omega), ← List.map_take] at o6
  have e5 : (5 : Int).toNat = 5 := rfl
  rw [e5] at o6
  have h5l : (ns.take 5).length = 5 := by rw [List.length_take]; omega
  have h5m : ∀ y ∈ ns.take 5, Nm y := fun y hy => hns y (List.mem_of_mem_take hy)
  generalize ns.take 5 = ms at *
  have gC := o6.atL 0 rfl
  walk_at "go"
  refine o_compS (σ := Unit) (fun _ => [(iC, ms.map .str), (i, t4)]) (fun k acc _ => acc = ((ms.take k).map fun y => mS (y.cps.toList ++ [32, 45, 62])).map .str) (s0 := ()) o6 rfl (by rw [List.length_map]; omega) (fun _ _ _ _ o => decide_eq_true (o.atL 1 rfl)) ?_ ?_
  · rintro m d acc _ c9 h6 hd hai hI ow6
    rw [List.getElem?_map, Option.map_eq_some_iff] at hd
    obtain ⟨y, ey, rfl⟩ := hd
    have yl := (h5m y (List.mem_of_getElem? ey)).2.1
    refine ⟨_, rfl, ?_⟩
    dsimp only [wipeD, List.set]
    walk_at "go"
    refine w_addS (by rw [sR_ar72, mS_len]; simp only [List.length_cons, List.length_nil]; omega) ?_
    rw [sR_ar72, ← mS_of y, mS_app]
    refine ⟨(), ow6, ?_⟩
    rw [hI, take_s7 ey, List.map_append, List.map_append]
    rfl
  rintro acc _ c9 h6 hai hI ow6
  rw [List.length_map, List.take_length] at hI
  subst hI
  have g9 := ow6.atL 0 rfl
  have em : (ms.map fun y => mS (y.cps.toList ++ [32, 45, 62])) = (ms.map fun y => y.cps.toList ++ [32, 45, 62]).map mS := by rw [List.map_map]; rfl
  have hm : ∀ a ∈ ms.map fun y => y.cps.toList ++ [32, 45, 62], Tx73 11 0 a := fun a ha => by
    obtain ⟨y, hy, rfl⟩ := List.mem_map.mp ha
    have z : Tx73 3 0 [32, 45, 62] := by unfold Tx73; decide
    exact (nm_tx73 (h5m y hy)).app z
  have xj := tx_jn73 _ hm
  rw [List.length_map, h5l] at xj
  walk_at "go"
  refine w_join (x := Str.ofString "; ") g9 ?_ ?_
  · have e2 : ((ms.map fun y => mS (y.cps.toList ++ [32, 45, 62])).map (·.length)).sum ≤ 5 * 11 := by
      have : ∀ l : List Str, (∀ y ∈ l, Nm y) → ((l.map fun y => mS (y.cps.toList ++ [32, 45, 62])).map (·.length)).sum ≤ l.length * 11 := fun l => by
        induction l with
        | nil => intro _; simp
        | cons y l ih =>
          intro h
          have h1 := (nm_tx73 (h y List.mem_cons_self)).1
          have h2 := ih fun z hz => h z (List.mem_cons_of_mem _ hz)
          rw [List.map_cons, List.map_cons, List.sum_cons, List.length_cons, Nat.succ_mul, mS_len, List.length_append]
          simp only [List.length_cons, List.length_nil]
          omega
      have := this ms h5m
      omega
    rw [sR_semb72, mS_len [59, 32], List.length_map, h5l]
    simp only [List.length_cons, List.length_nil]
    omega
  rw [em, sR_semb72, join_S72]
  have hjl := xj.1
  walk_at "go"
  refine w_addS (by rw [mS_len, mS_len, List.length_append]; simp only [List.length_cons, List.length_nil]; omega) ?_
  rw [mS_app]
  have z1 : Tx73 1 0 [59] := by unfold Tx73; decide
  exact ⟨_, t4, rfl, ((x.app z1).app xj).le (by omega) (by omega), ht4, ow6.tail.tail⟩
end
section
open PySem L2

local macro_rules | `(tactic| walk_at "lk") => `(tactic| first | with_reducible exact lkA | (apply lkB; decide +kernel; walk_at "lk"))
local macro_rules | `(tactic| walk_at "mk") => `(tactic| first | with_reducible exact mkA | (apply mkB; decide +kernel; walk_at "mk"))
local macro_rules | `(tactic| walk_at "fk") => `(tactic| first | with_reducible exact fkA | exact fkN | (apply fkB; decide +kernel; walk_at "fk"))
local macro_rules | `(tactic| walk_at "cs") => `(tactic| first | exact List.mem_cons_self | (apply List.mem_cons_of_mem; walk_at "cs"))
local macro_rules | `(tactic| walk_at "w") => `(tactic| first
  | with_reducible refine w_fld ?_
  | ((with_reducible refine w_fldK (c := ?_) (fs := ?_) (v := ?_) ?_ ?_ ?_ ?_); rotate_left; rotate_left; rotate_left; (with_reducible assumption); (walk_at "cs"); (walk_at "fk"))
  | with_reducible refine w_setFld ?_
  | with_reducible refine w_new ?_
  | with_reducible refine w_methI ?_
  | ((with_reducible refine w_methK (c := ?_) (fs := ?_) (F := ?_) ?_ ?_ ?_ ?_); rotate_left; rotate_left; rotate_left; (with_reducible assumption); (walk_at "mk"); (walk_at "fk"))
  | with_reducible refine w_isC ?_
  | ((with_reducible refine w_isCK (c := ?_) (fs := ?_) (k := ?_) ?_ ?_ ?_); rotate_left; rotate_left; rotate_left; (with_reducible assumption); (walk_at "lk"))
  | with_reducible refine w_callD ?_
  | with_reducible refine w_mDSet ?_
  | with_reducible refine w_eq (nN_non _) ?_
  | with_reducible refine w_eq (nN_int _ _) ?_
  | with_reducible refine w_eq (nN_tup _ _) ?_
  | with_reducible refine w_eq (nN_ref _ _) ?_
  | with_reducible refine w_eq (iN_non _) ?_
  | with_reducible refine w_eq (iN_int _ _) ?_
  | with_reducible refine w_eq (iN_tup _ _) ?_
  | with_reducible refine w_eq (iN_ref _ _) ?_)
def It.okM : Nat → It → Prop
  | _, .hole => True
  | 0, .nd x l => Nm x ∧ l = []
  | n + 1, .nd x l => Nm x ∧ l.length ≤ 3 ∧ ∀ i ∈ l, i.okM n
theorem okM_hole73 {n : Nat} : It.hole.okM n := by cases n <;> trivial
theorem itM_mono : ∀ {n m : Nat} {i : It}, i.okM n → n ≤ m → i.okM m
  | n, m, .hole, _, _ => by cases m <;> trivial
  | 0, 0, .nd _ _, h, _ => h
  | 0, m + 1, .nd x l, h, _ => ⟨h.1, by rw [h.2]; simp, fun i hi => by rw [h.2] at hi; cases hi⟩
  | n + 1, 0, .nd _ _, _, h => by omega
  | n + 1, m + 1, .nd x l, h, hm => ⟨h.1, h.2.1, fun i hi => itM_mono (h.2.2 i hi) (by omega)⟩
theorem c40_0_73 {i : It} (h : i.okM 0) : i.nms ∧ i.dp ≤ 1 ∧ (shI72 i).length ≤ 8 ∧ (shI72 i).count 40 = 0 := by
  cases i with
  | hole => exact ⟨trivial, by rw [It.dp]; omega, by rw [shI72]; decide, by rw [shI72]; decide⟩
  | nd x l =>
    obtain ⟨h1, h2⟩ := h
    subst h2
    have z := nm_tx73 h1
    refine ⟨⟨h1, trivial⟩, by rw [It.dp, It.dps]; omega, ?_, ?_⟩
    · rw [shI72, shB72, List.append_nil]; exact z.1
    · rw [shI72, shB72, List.append_nil]; have := z.2.1; omega
theorem shT_c40_73 : ∀ l : List It, (shT72 l).count 40 = (l.map fun i => (shI72 i).count 40).sum
  | [] => by rw [shT72]; rfl
  | i :: l => by rw [shT72, List.count_cons, List.count_append, shT_c40_73 l, List.map_cons, List.sum_cons]; simp
theorem shL_c40_73 (l : List It) : (shL72 l).count 40 = (l.map fun i => (shI72 i).count 40).sum := by
  cases l with
  | nil => rw [shL72]; rfl
  | cons i l => rw [shL72, List.count_append, shT_c40_73, List.map_cons, List.sum_cons]
theorem sum_c40_73 {b : Nat} : ∀ {l : List It}, (∀ i ∈ l, (shI72 i).count 40 ≤ b) → (l.map fun i => (shI72 i).count 40).sum ≤ l.length * b
  | [], _ => by simp
  | i :: l, h => by
    rw [List.map_cons, List.sum_cons, List.length_cons, Nat.succ_mul]
    have := h i List.mem_cons_self
    have := sum_c40_73 fun j hj => h j (List.mem_cons_of_mem _ hj)
    omega
theorem dps_le73 {w : Nat} : ∀ {m : List It}, (∀ i ∈ m, i.dp ≤ w) → It.dps m ≤ w
  | [], _ => by rw [It.dps]; omega
  | i :: m, hm => by
    rw [It.dps]
    have := hm i List.mem_cons_self
    have := dps_le73 fun j hj => hm j (List.mem_cons_of_mem _ hj)
    omega
theorem row_b73 {l : List It} {b c w : Nat} (h3 : l.length ≤ 3) (h : ∀ i ∈ l, i.nms ∧ i.dp ≤ w ∧ (shI72 i).length ≤ b ∧ (shI72 i).count 40 ≤ c) : It.nmss l ∧ It.dps l ≤ w ∧ (shL72 l).length ≤ 3 * b + 3 ∧ (shL72 l).count 40 ≤ 3 * c := by
  have e1 := shL_le72 l
  have e2 := sum_le72 fun i hi => (h i hi).2.2.1
  have e3 : l.length * b ≤ 3 * b := Nat.mul_le_mul_right _ h3
  have e4 := sum_c40_73 fun i hi => (h i hi).2.2.2
  have e5 : l.length * c ≤ 3 * c := Nat.mul_le_mul_right _ h3
  rw [← shL_c40_73] at e4
  exact ⟨nmss_iff72.mpr fun i hi => (h i hi).1, dps_le73 fun i hi => (h i hi).2.1, by omega, by omega⟩
theorem c40_1_73 {i : It} (h : i.okM 1) : i.nms ∧ i.dp ≤ 2 ∧ (shI72 i).length ≤ 40 ∧ (shI72 i).count 40 ≤ 1 := by
  cases i with
  | hole => exact ⟨trivial, by rw [It.dp]; omega, by rw [shI72]; decide, by rw [shI72]; decide⟩
  | nd x l =>
    obtain ⟨h1, h2, h3⟩ := h
    have z := nm_tx73 h1
    obtain ⟨r1, r2, r3, r4⟩ := row_b73 (b := 8) (c := 0) (w := 1) h2 fun i hi => by
      have := c40_0_73 (h3 i hi)
      exact ⟨this.1, this.2.1, this.2.2.1, Nat.le_of_eq this.2.2.2⟩
    refine ⟨⟨h1, r1⟩, by rw [It.dp]; omega, ?_, ?_⟩
    · rw [shI72, List.length_append]
      have := z.1
      cases l with
      | nil => rw [shB72, List.length_nil]; omega
      | cons j l =>
        rw [shB_ne72 (by simp)]
        simp only [List.length_append, List.length_cons, List.length_nil]
        omega
    · rw [shI72, List.count_append]
      have := z.2.1
      cases l with
      | nil => rw [shB72, List.count_nil]; omega
      | cons j l =>
        rw [shB_ne72 (by simp), List.count_cons_self, List.count_append]
        have e41 : List.count 40 [41] = 0 := by decide
        omega
theorem rule_b73 {p : Str × List It} (h : Nm p.1 ∧ p.2.length ≤ 3 ∧ ∀ it ∈ p.2, it.okM 1) : RW72 p ∧ (shL72 p.2).length ≤ 100000 ∧ Tx73 140 3 (shR72 p) := by
  obtain ⟨h1, h2, h3⟩ := h
  obtain ⟨r1, r2, r3, r4⟩ := row_b73 (b := 40) (c := 1) (w := 2) h2 fun i hi => c40_1_73 (h3 i hi)
  have P : RW72 p := ⟨h1, r1, by omega, by omega⟩
  have e1 := shR_len72 P
  refine ⟨P, by omega, by omega, ?_, fun x hx => by have := ch_R72 P x hx; unfold Ch72 at this; omega⟩
  unfold shR72
  rw [List.count_append]
  have := (nm_tx73 h1).2.1
  split
  · have : List.count 40 [32, 45, 62] = 0 := by decide
    omega
  · rw [show (32 :: 45 :: 62 :: 32 :: shL72 p.2) = [32, 45, 62, 32] ++ shL72 p.2 from rfl, List.count_append]
    have : List.count 40 [32, 45, 62, 32] = 0 := by decide
    omega
theorem tx_jnc73 {b c : Nat} : ∀ l : List (List Nat), (∀ a ∈ l, Tx73 b c a) → Tx73 (l.length * (b + 2)) (l.length * c) (TL.joinL [59, 32] l)
  | [], _ => ⟨by simp [TL.joinL], by simp [TL.joinL], fun x hx => by simp [TL.joinL] at hx⟩
  | [a], h => (h a (by simp)).le (by simp) (by simp)
  | a :: d :: l, h => by
    rw [jn_cons72]
    have h1 := h a (by simp)
    have h2 := tx_jnc73 (d :: l) fun x hx => h x (List.mem_cons_of_mem _ hx)
    have z : Tx73 2 0 [59, 32] := by unfold Tx73; decide
    refine (h1.app (z.app h2)).le ?_ ?_
    · simp only [List.length_cons, Nat.succ_mul]; omega
    · simp only [List.length_cons, Nat.succ_mul]; omega
theorem cc_items73 {h0 : MH} {ns : List Str} {ip i : Nat} (hns : ∀ x ∈ ns, Nm x) (h9 : ns.length = 9) (gp : getL h0 ip = some (ns.map .str)) : ∀ (t n : Nat) (L : LL) (l : List D) (h : MH) (dp : Nat), dp < t → Own h0 h L → L[n]? = some (i, l) → Tp l →
    Sat (m_items_b2406 t [.ref i, .int (dp : Int), .ref ip] h) (fun d h' => ∃ (its : List It) (l' : List D), d = .tup (its.map It.toD) ∧ Tp l' ∧ Own h0 h' (L.set n (i, l')) ∧ its.length ≤ 3 ∧ ∀ it ∈ its, it.okM dp) noX
  | 0, n, L, l, h, dp, h1, _, _, _ => by omega
  | t + 1, n, L, l, h, dp, h1, ow, e, tl => by
    have hn := (List.getElem?_eq_some_iff.mp e).1
    unfold m_items_b2406
    walk_at "fn"
    refine o_new ow (by simp) fun iF h2 o2 => ?_
    walk_at "go"
    refine (c_next o2 (n + 1) (by rw [List.getElem?_cons_succ]; exact e) tl (by decide)).mono ?_
    rintro d h3 ⟨v, l3, rfl, v0, v1, tl3, o3⟩
    rw [List.set_cons_succ] at o3
    walk_at "go"
    refine w_loop0 (fun k ρ h' => ∃ (o4 o5 : Option D) (its : List It) (l' : List D), ρ = [some (.ref i), some (.int (dp : Int)), some (.ref ip), some (.ref iF), o4, o5] ∧ Tp l' ∧ Own h0 h' ((iF, its.map It.toD) :: L.set n (i, l')) ∧ its.length = k ∧ ∀ it ∈ its, it.okM dp) ⟨none, none, [], l3, rfl, tl3, o3, rfl, fun it hit => by simp at hit⟩ (fun _ _ _ _ => rfl) ?_ ?_
    · rintro k d ρ h4 hd ⟨o4, o5, its, l4, rfl, tl4, ow4, hk, hits⟩
      obtain ⟨hkv, rfl⟩ := rangeD_get hd
      refine ⟨_, rfl, ?_⟩
      dsimp only [List.set]
      have e4 : ((iF, its.map It.toD) :: L.set n (i, l4))[n + 1]? = some (i, l4) := by rw [List.getElem?_cons_succ, List.getElem?_set_self hn]
      have gp4 := ow4.getL gp
      walk_at "go"
      refine (c_next ow4 (n + 1) e4 tl4 (by decide)).mono ?_
      rintro d h5 ⟨v5, l5, rfl, v50, v51, tl5, o5'⟩
      rw [List.set_cons_succ, List.set_set] at o5'
      have e5 : ((iF, its.map It.toD) :: L.set n (i, l5))[n + 1]? = some (i, l5) := by rw [List.getElem?_cons_succ, List.getElem?_set_self hn]
      walk_at "go"
      refine br_d (fun q => ?_) (fun q => ?_)
      · walk_at "go"
        refine o_app o5' 0 rfl (by simp; omega) fun h6 o6 => ?_
        have e6 : D.str (Str.ofString "*") = It.hole.toD := rfl
        rw [List.set_cons_zero, e6, map_app1] at o6
        exact ⟨_, _, _, l5, rfl, tl5, o6, by simp [hk], mem_app hits okM_hole73⟩
      · walk_at "go"
        refine br_d (fun q2 => ?_) (fun q2 => ?_)
        · have hd0 : dp = 0 := by omega
          subst hd0
          walk_at "go"
          refine (c_next o5' (n + 1) e5 tl5 (by decide)).mono ?_
          rintro d h6 ⟨v6, l6, rfl, v60, v61, tl6, o6⟩
          rw [List.set_cons_succ, List.set_set] at o6
          obtain ⟨x, hx, ax⟩ := pool_at h9 v60 v61
          have gp6 := o6.getL gp
          walk_at "go"
          refine o_app o6 0 rfl (by simp; omega) fun h7 o7 => ?_
          have e7 : D.tup [.str x, .tup []] = (It.nd x []).toD := by rw [it_nd]; rfl
          rw [List.set_cons_zero, e7, map_app1] at o7
          exact ⟨_, _, _, l6, rfl, tl6, o7, by simp [hk], mem_app hits ⟨hns x hx, rfl⟩⟩
        · obtain ⟨dq, rfl⟩ : ∃ dq, dp = dq + 1 := ⟨dp - 1, by omega⟩
          walk_at "go"
          refine (c_next o5' (n + 1) e5 tl5 (by decide)).mono ?_
          rintro d h6 ⟨v6, l6, rfl, v60, v61, tl6, o6⟩
          rw [List.set_cons_succ, List.set_set] at o6
          obtain ⟨x, hx, ax⟩ := pool_at h9 v60 v61
          have gp6 := o6.getL gp
          have e6 : ((iF, its.map It.toD) :: L.set n (i, l6))[n + 1]? = some (i, l6) := by rw [List.getElem?_cons_succ, List.getElem?_set_self hn]
          walk_at "go"
          have edq : ((dq + 1 : Nat) : Int) - 1 = (dq : Int) := by omega
          rw [edq]
          refine (cc_items73 hns h9 gp t (n + 1) _ l6 h6 dq (by omega) o6 e6 tl6).mono ?_
          rintro d h7 ⟨sub, l7, rfl, tl7, o7, hs3, hsub⟩
          rw [List.set_cons_succ, List.set_set] at o7
          walk_at "go"
          refine o_app o7 0 rfl (by simp; omega) fun h8 o8 => ?_
          have e8 : D.tup [.str x, .tup (sub.map It.toD)] = (It.nd x sub).toD := (it_nd x sub).symm
          rw [List.set_cons_zero, e8, map_app1] at o8
          exact ⟨_, _, _, l7, rfl, tl7, o8, by simp [hk], mem_app hits ⟨hns x hx, by omega, hsub⟩⟩
    · rintro ρ h4 ⟨o4, o5, its, l4, rfl, tl4, ow4, hk, hits⟩
      rw [rangeD_length] at hk
      walk_at "go"
      exact ⟨its, l4, rfl, tl4, ow4.tail, by omega, hits⟩
theorem cc_turner73 {sc : List Int} (hb : ∀ z ∈ sc, Cell z) {h0 : MH} (g0 : getL h0 0 = some (sc.map D.int)) {ns : List Str} {ip : Nat} (hns : ∀ x ∈ ns, Nm x) (h9 : ns.length = 9) {h : MH} (gp : getL h ip = some (ns.map .str)) (hh : h0 <+: h) :
    Sat (m_turner_aa784 [.ref 0, .int 2, .int 8, .ref ip, .int 2] h) (fun d h' => h <+: h' ∧ ∃ rl : TRl, d = .tup (rl.map rD) ∧ rl.length ≤ 8 ∧ ∀ p ∈ rl, Nm p.1 ∧ p.2.length ≤ 3 ∧ ∀ it ∈ p.2, it.okM 1) noX := by
  have gs := pre_getL hh g0
  walk_at "fn"
  refine (c_cell72 hb gs (by decide)).mono ?_
  rintro d h ⟨rfl, c0, rfl, hc0, hcD⟩
  walk_at "go"
  have hm := mod_in c0 (n := 8 + 1) (by decide)
  refine o_new (Own.nil h) (by simp) fun iR h1 o1 => ?_
  walk_at "go"
  refine w_loop0 (fun k ρ h' => ∃ (o7 o8 o9 : Option D) (rl : TRl), ρ = [some (.ref 0), some (.int 2), some (.int 8), some (.ref ip), some (.int 2), some (.int c0), some (.ref iR), o7, o8, o9] ∧ Own h h' [(iR, rl.map rD)] ∧ rl.length = k ∧ rl.map (·.1) = (List.range k).map (nmAt72 ns (c0 / 16)) ∧ (∀ p ∈ rl, Nm p.1 ∧ p.2.length ≤ 3 ∧ ∀ it ∈ p.2, it.okM 1)) ⟨none, none, none, [], rfl, o1, rfl, rfl, fun p hp => by simp at hp⟩ (fun _ _ _ _ => rfl) ?_ ?_
  · rintro k d ρ h2 hd ⟨o7, o8, o9, rl, rfl, ow, hk, hnm, hrl⟩
    obtain ⟨hkn, rfl⟩ := rangeD_get hd
    refine ⟨_, rfl, ?_⟩
    dsimp only [List.set]
    walk_at "go"
    refine (c_cell_at hb (ow.getL gs) (by omega)).mono ?_
    rintro d h3 ⟨rfl, c3, rfl, hc3⟩
    walk_at "go"
    refine (c_tape2 (n := 120) hc3 (by decide)).mono ?_
    rintro d h4 ⟨it, tl, rfl, o4, htl⟩
    have o4' := ow.trans o4
    walk_at "go"
    refine (c_next o4' 0 rfl htl (by decide)).mono ?_
    rintro d h5 ⟨v, tl5, rfl, v0, v1, htl5, o5⟩
    have hix := mod_in (c0 / 16 + 2 * (0 + (k : Int))) (n := 9) (by decide)
    obtain ⟨x, hxe, hx, ax⟩ := pool_at72 h9 hix.1 hix.2
    have gp5 := o5.getL gp
    obtain ⟨dp, rfl⟩ : ∃ dp : Nat, v = (dp : Int) := ⟨v.toNat, by omega⟩
    walk_at "go"
    refine (cc_items73 hns h9 gp 100 0 _ tl5 h5 dp (by omega) o5 rfl htl5).mono ?_
    rintro d h6 ⟨its, tl6, rfl, htl6, o6, hi3, hits⟩
    walk_at "go"
    refine o_app o6 1 rfl (by simp; omega) fun h7 o7 => ?_
    have e7 : D.tup [.str x, .tup (its.map It.toD)] = rD (x, its) := rfl
    dsimp only [List.set, List.cons_append, List.nil_append] at o7
    rw [e7, map_app1] at o7
    exact ⟨_, _, _, _, rfl, o7.tail, by simp [hk], by rw [List.map_append, hnm, List.range_succ, List.map_append]; simp only [List.map_cons, List.map_nil, nmAt72]; rw [Int.zero_add] at hxe; rw [hxe], mem_app hrl ⟨hns x hx, by simp; omega, fun it hit => itM_mono (hits it hit) (by omega)⟩⟩
  · rintro ρ h2 ⟨o7, o8, o9, rl, rfl, ow, hk, hnm, hrl⟩
    rw [rangeD_length] at hk
    walk_at "go"
    exact ⟨ow.pre, rl, rfl, by omega, hrl⟩
/-! what is read is no longer than its text -/
theorem shT_le73 (l : List It) : (shT72 l).length ≤ 1 + (shL72 l).length := by
  cases l with
  | nil => rw [shT72]; simp
  | cons i l => rw [shT72, shL72, List.length_cons]; omega
theorem shB_le73 (l : List It) : (shB72 l).length ≤ 2 + (shL72 l).length := by
  cases l with
  | nil => rw [shB72]; simp
  | cons i l =>
    rw [shB_ne72 (by simp)]
    simp only [List.length_append, List.length_cons, List.length_nil]
    omega
theorem row_ln73 {n : Nat} (hi : ∀ l i q, pIt72 n l = .ok (i, q) → (shI72 i).length + q.length ≤ l.length) : ∀ k l its q, pRow72 (pIt72 n) k l = .ok (its, q) → (shL72 its).length + q.length ≤ l.length
  | 0, l, its, q, e => by rw [pRow72] at e; cases e
  | k + 1, l, its, q, e => by
    cases hf : pIt72 n l with
    | out => rw [pRow72, hf] at e; cases e
    | no => rw [pRow72, hf] at e; cases e
    | ok w =>
      obtain ⟨i, r⟩ := w
      have h1 := hi l i r hf
      by_cases hb : ∃ r', r = 32 :: r'
      · obtain ⟨r', rfl⟩ := hb
        rw [pRow_blank72 hf] at e
        cases hr : pRow72 (pIt72 n) k r' with
        | out => rw [hr] at e; cases e
        | no => rw [hr] at e; cases e
        | ok w =>
          obtain ⟨its', q'⟩ := w
          rw [hr] at e
          cases e
          have h3 := row_ln73 hi k r' its' q hr
          have h4 := shT_le73 its'
          rw [shL72, List.length_append]
          rw [List.length_cons] at h1
          omega
      · rw [pRow_end72 hf fun r' z => hb ⟨r', z⟩] at e
        cases e
        rw [shL72, shT72, List.append_nil]
        exact h1
theorem it_ln73 : ∀ n l i q, pIt72 n l = .ok (i, q) → (shI72 i).length + q.length ≤ l.length
  | 0, l, i, q, e => by
    have : pIt72 0 l = .out := by rw [pIt72]
    rw [this] at e
    cases e
  | n + 1, l, i, q, e => by
    have hd := tdw73 isL72 l
    by_cases h42 : ∃ r, l = 42 :: r
    · obtain ⟨r, rfl⟩ := h42
      rw [pIt_star73] at e
      cases e
      simp only [shI72, List.length_cons, List.length_nil]
      omega
    · have h42 : ∀ r, l ≠ 42 :: r := fun r z => h42 ⟨r, z⟩
      by_cases hw : 1 ≤ (l.takeWhile isL72).length ∧ (l.takeWhile isL72).length ≤ 8
      · by_cases er : ∃ r', l.dropWhile isL72 = 40 :: r'
        · obtain ⟨r', er⟩ := er
          rw [pIt_open73 h42 hw er] at e
          rw [er, List.length_cons] at hd
          cases hr : pRow72 (pIt72 n) (r'.length + 1) r' with
          | out => rw [hr] at e; cases e
          | no => rw [hr] at e; cases e
          | ok w =>
            obtain ⟨its', q'⟩ := w
            rw [hr] at e
            have h3 := row_ln73 (it_ln73 n) _ _ _ _ hr
            by_cases hq : ∃ q'', q' = 41 :: q''
            · obtain ⟨q'', rfl⟩ := hq
              rw [nd_shut73] at e
              cases e
              have h4 := shB_le73 its'
              rw [shI72, List.length_append, mS_cps]
              rw [List.length_cons] at h3
              omega
            · rw [nd_no73 fun r z => hq ⟨r, z⟩] at e
              cases e
        · rw [pIt_leaf73 h42 hw fun r z => er ⟨r, z⟩] at e
          cases e
          rw [shI72, shB72, List.append_nil, mS_cps]
          omega
      · rw [pIt_no73 h42 hw] at e
        cases e
theorem rule_ln73 {l : List Nat} {p : Str × List It} (e : rule73 l = some p) : (shL72 p.2).length ≤ l.length := by
  unfold rule73 at e
  split at e
  · split at e
    · cases e
      rw [shL72]; simp
    · rename_i c r er
      have hlr : r.length ≤ l.length := by
        have h1 := ((List.drop_suffix 3 (l.dropWhile isL72)).trans (List.dropWhile_suffix isL72)).sublist.length_le
        rw [er, List.length_cons] at h1
        omega
      split at e
      · rw [Option.map_eq_some_iff] at e
        obtain ⟨its, e1, rfl⟩ := e
        unfold its73 at e1
        cases hr : pRow72 (pIt72 34) (r.length + 1) r with
        | out => rw [hr] at e1; cases e1
        | no => rw [hr] at e1; cases e1
        | ok w =>
          obtain ⟨its', q⟩ := w
          rw [hr] at e1
          have h3 := row_ln73 (it_ln73 34) _ _ _ _ hr
          cases q with
          | nil => cases e1; dsimp only; omega
          | cons d q => cases e1
      · cases e
  · cases e
theorem rd_ok73 {l : List Nat} {ps : TRl} (e : rd73 l = .ok ps) (hl : l.length ≤ 1400) (hc : l.count 40 ≤ 27) : ps.length ≤ 12 ∧ ∀ p ∈ ps, Nm p.1 ∧ It.nmss p.2 ∧ It.dps p.2 ≤ 28 ∧ (shL72 p.2).length ≤ 1400 := by
  unfold rd73 at e
  split at e
  · cases e
    exact ⟨by simp, fun p hp => by cases hp⟩
  · split at e
    · cases e
    · rename_i h12
      split at e
      · cases e
      · split at e
        · cases e
        · cases e
          refine ⟨Nat.le_trans (List.length_filterMap_le _ _) (by omega), fun p hp => ?_⟩
          obtain ⟨r, hr, er⟩ := List.mem_filterMap.mp hp
          obtain ⟨z1, z2, z3⟩ := rule_wl73 er
          have z4 := rule_ln73 er
          have hs := rows_mem73 hr
          have := hs.length_le
          have := hs.count_le 40
          exact ⟨z1, z2, by omega, by omega⟩
theorem same_turner73 {ps : TRl} (h9 : ps.length ≤ 12) (P : ∀ p ∈ ps, Nm p.1 ∧ It.nmss p.2 ∧ It.dps p.2 ≤ 28 ∧ (shL72 p.2).length ≤ 1400) {h : MH} : Sat (m_same_3d8da 100 [.tup (ps.map rD), .tup (ps.map rD)] h) (okT h) noX := by
  refine same_all (t := 99) (by rw [List.length_map]; omega) fun a ha h' => ?_
  obtain ⟨p, hp, rfl⟩ := List.mem_map.mp ha
  obtain ⟨z1, z2, z3, z4⟩ := P p hp
  rw [rD_it72]
  refine same_it72 99 _ h' ⟨z1, z2⟩ (by rw [It.dp]; omega) ?_
  have := (nm_tx73 z1).1
  have := shB_le73 p.2
  rw [shI72, List.length_append]
  omega
theorem main_k73 : ∀ ns : List Int, ns.length ≤ 63 → (∀ z ∈ ns, Builtin.Int.intBits z ≤ 1048576) → ∃ h', m_law_b3eeb [.ref 0] [.rol (ns.map D.int)] = .ok (.bl true) h' := by
  intro sc hn hb
  suffices hh : Sat (m_law_b3eeb [.ref 0] [.rol (sc.map D.int)]) (fun d h' => d = .bl true) noX by
    obtain ⟨d, h', e, rfl⟩ := hh.get
    exact ⟨h', e⟩
  have hb' : ∀ z ∈ sc, Cell z := hb
  generalize hh0 : [MO.rol (sc.map D.int)] = h0
  have g0 : getL h0 0 = some (sc.map D.int) := by rw [← hh0]; rfl
  clear hh0
  walk_at "fn"
  refine (c_cell_at hb' g0 (by decide)).mono ?_
  rintro d h0 ⟨rfl, c0, rfl, hc0⟩
  walk_at "go"
  refine n_names9d.mono ?_
  rintro d h1 ⟨iP, ns, rfl, o1, h9, hnd, hns⟩
  walk_at "go"
  refine (c_cell_at hb' (o1.getL g0) (by decide)).mono ?_
  rintro d h2 ⟨rfl, c1, rfl, hc1⟩
  walk_at "go"
  refine (c_tape2 (n := 20) hc1 (by decide)).mono ?_
  rintro d h3 ⟨it, tl, rfl, o3, htl⟩
  have gp3 := pre_getL o3.pre (o1.atL 0 rfl)
  have o3' := o1.trans o3
  walk_at "go"
  refine (cc_turner73 hb' g0 hns h9 gp3 (o1.pre.trans o3.pre)).mono ?_
  rintro d h4 ⟨p4, rl, rfl, hrl8, hrl⟩
  have P : ∀ p ∈ rl, RW72 p ∧ (shL72 p.2).length ≤ 100000 := fun p hp => ⟨(rule_b73 (hrl p hp)).1, (rule_b73 (hrl p hp)).2.1⟩
  have x0 := tx_jnc73 (b := 140) (c := 3) (rl.map shR72) fun a ha => by
    obtain ⟨p, hp, rfl⟩ := List.mem_map.mp ha
    exact (rule_b73 (hrl p hp)).2.2
  rw [List.length_map] at x0
  have x0 : Tx73 1136 24 (shN72 rl) := x0.le (by omega) (by omega)
  have o4 := o3'.ext p4
  walk_at "go"
  refine ⟨isStrD_str _ _, ?_⟩
  walk_at "go"
  refine k_texts72 P (by omega) (fun p hp h' => ⟨_, rfl, ?_⟩) fun c h5 o5 => ?_
  · dsimp only [wipeD, List.set]
    walk_at "go"
    exact k_ruleshown72 (P p hp).1
  have g5 := o5.atL 0 rfl
  walk_at "go"
  refine w_joinN72 P (by omega) g5 ?_
  have o6 := o4.ext o5.pre
  have gp2 := o1.atL 0 rfl
  have ow := (o3.ext p4).ext o5.pre
  walk_at "go"
  refine (c_next ow 0 rfl htl (by decide)).mono ?_
  rintro d h6 ⟨v, t6, rfl, v0, v1, ht6, o7⟩
  dsimp only [List.set] at o7
  walk_at "go"
  refine OS.mono (N := fun ρ h' => ∃ (l : List Nat) (o9 : Option D), ρ = [some (.ref 0), some (.ref iP), some (.ref it), some (.tup (rl.map rD)), some (.str (mS l)), o9, none, none, none, none, none] ∧ Tx73 1400 27 l) ?_ ?_ (fun _ _ z => z) (fun _ _ z => z) (fun _ _ z => z) (fun _ _ _ _ z => z)
  · refine w_loop0 (fun k ρ h' => ∃ (l : List Nat) (o9 : Option D) (tl' : List D), ρ = [some (.ref 0), some (.ref iP), some (.ref it), some (.tup (rl.map rD)), some (.str (mS l)), o9, none, none, none, none, none] ∧ Tx73 (1136 + 70 * k) (24 + k) l ∧ Tp tl' ∧ Own h2 h' [(it, tl')]) ⟨_, none, t6, rfl, x0, ht6, o7⟩ (fun _ _ _ _ => rfl) ?_ ?_
    · rintro k d ρ h7 hd ⟨l, o9, tl7, rfl, x7, ht7, ow7⟩
      obtain ⟨hkv, rfl⟩ := rangeD_get hd
      have hk3 : k < 3 := by omega
      refine ⟨_, rfl, ?_⟩
      dsimp only [List.set]
      walk_at "go"
      refine (cc_changed73 hns h9 gp2 ow7 ht7 x7 (by omega)).mono ?_
      rintro y h8 ⟨l', tl8, rfl, x8, ht8, o8⟩
      walk_at "go"
      exact ⟨l', _, tl8, rfl, x8.le (by omega) (by omega), ht8, o8⟩
    · rintro ρ h7 ⟨l, o9, tl7, rfl, x7, ht7, ow7⟩
      rw [rangeD_length] at x7
      exact ⟨l, o9, rfl, x7.le (by omega) (by omega)⟩
  rintro ρ h7 ⟨l, o9, rfl, x7⟩
  obtain ⟨x71, x72, x73⟩ := x7
  walk_at "go"
  refine (k_read73b (by omega) (by omega) x73).mono ?_
  rintro y h8 ⟨p8, rfl⟩
  walk_at "go"
  refine (k_readturner73 (by omega) (by omega)).monoE ?_ ?_
  · rintro d h9 ⟨p9, ps, e, rfl⟩
    rw [e, rdD73]
    obtain ⟨q1, q2⟩ := rd_ok73 e x71 x72
    walk_at "go"
    refine (same_turner73 q1 q2).mono ?_
    rintro r h10 ⟨p10, rfl⟩
    rfl
  · rintro x fs h9 ⟨k, e, p9, rfl, rfl⟩
    rw [e, rdD73]
    refine tryE_t lk1 rfl ?_
    dsimp only [List.set]
    walk_at "go"
    refine w_eq (isi_tup_int _ _) ?_
    walk_at "go"
    trace_state
    refine (same_int).mono ?_
    rintro r h10 ⟨p10, rfl⟩
    rfl
end
end Mi


namespace Sk73
open PySem L2 Mi
def top (i : Nat) : Stmt := PySem.Challenge.pw_graftform_k73_near_turners.main.body.getD i (.Pass ⟨0, 0, 0, 0⟩)
/-- what the top leaves: names of built-ins that are not bound, constants -/
structure Txt (K : PySem.W.Frag) (mg : Str → Option Value) : Prop where
  b_ValueError : mg "ValueError" = none
  b_all : mg "all" = none
  b_bool : mg "bool" = none
  b_int : mg "int" = none
  b_isinstance : mg "isinstance" = none
  b_len : mg "len" = none
  b_range : mg "range" = none
  b_str : mg "str" = none
  b_tuple : mg "tuple" = none
  b_zip : mg "zip" = none
  g_HOLE : ∃ t, mg "HOLE" = some (.str (Str.ofString "*") t)
  g_LETTERS_docs : ∃ t, mg "LETTERS_docs" = some (.str (Str.ofString "abcdefghijklmnopqrstuvwxyz") t)
  g_LETTERS_turntexts : ∃ t, mg "LETTERS_turntexts" = some (.str (Str.ofString "abcdefghijklmnopqrstuvwxyz") t)
  g_TURNS : ∃ t, mg "TURNS" = some (.int (12) t)
  ct_at : CT K "at" [(Str.ofString "ItemReader")]
  ct_text : CT K "text" [(Str.ofString "ItemReader")]
  ex_NoTurner : ExT K mg "NoTurner" [((Str.ofString "NoTurner"), true)]
  fl_row : FlT K "row" [(Str.ofString "NoTurner")]
  is_GraftError : IsT K mg "GraftError" [((Str.ofString "NoTurner"), true)]
  is_NoBook_NoDocument_NoPattern : IsTs K mg [(Str.ofString "NoBook"), (Str.ofString "NoDocument"), (Str.ofString "NoPattern")] [((Str.ofString "NoTurner"), false)]
  is_ValueError : IsB K "ValueError" [((Str.ofString "NoTurner"), true)]
theorem sc_init_NoTurner : FnScope ["self", "row"] ["self", "row"] (defScope (inner (top 6) 0)) := ⟨rfl, rfl, rfl, by decide +kernel, rfl, by decide +kernel, by decide +kernel⟩
section
variable {P : Program} {w : World} {K : PySem.W.Frag} {mg : Str → Option Value} {base : Heap}
theorem sc__law_names : FnScope ["_law_cell", "_law_letters", "_law_start", "_law_base", "_law_at", "_law_first", "_law_k"] ["_law_cell"] (defScope (top 22)) := ⟨rfl, rfl, rfl, by decide +kernel, rfl, by decide +kernel, by decide +kernel⟩
theorem sim__law_names (T : Txt K mg) (d : Df K mg "_law_names" (top 22) ["_law_cell"]) : Cal P w K mg base "_law_names" 1 (m_names_c11ae) := by
  exact cal_mk (k := 0) d sc__law_names fun f cdv A outer s H E hr => by
   have tk : Takes (cxOf (L2.CX P w) P w K mg base ["_law_cell", "_law_letters", "_law_start", "_law_base", "_law_at", "_law_first", "_law_k"] "_law_names" (defScope (top 22)) f cdv A outer s H E) (fun c d _ H' => E c d H') := takes_of rfl rfl rfl rfl
   have hu : (A.deeper (PyProof.Rows.envOfC "_law_names" (defScope (top 22)) s.heap.objs.size f cdv)).units + 65 < cLine := by have := hr.un; omega
   have S := sc__law_names
   exact ss_cons (sx_set (i := 1) (se_str) S.nd)
      (ss_cons (sx_set (i := 2) (se_bin op_mod s2_mod (mv 0) (se_int)) S.nd)
      (ss_cons (sx_set (i := 3) (se_bm PySem.F.plainAttrs_str PySem.F.slot_str_join PySem.F.type_str_join mt_join sty_str sm_join (se_str) (sa_cons (se_lc (own := [("_law_k", 6)]) S.nd (si_range1 T.b_range (se_int)) (blkOk_by (N := ["_law_cell", "_law_letters", "_law_start", "_law_base", "_law_at", "_law_first", "_law_k"]) (sc := defScope (top 22)) (by decide +kernel)) (tg_name 6) (fun _ _ _ _ _ => pg_name (i := 6) S.nd rfl (by first | exact Or.inl rfl | exact Or.inr rfl)) (fun _ _ _ _ _ => st_nil) (fun _ _ _ _ _ => se_ix ix_seq s2_ix (mv 1) (se_bin op_mod s2_mod (se_bin op_addA s2_add (mv 2) (se_bin op_mulA s2_mul (se_int) (mv 6))) (se_int)) (fun _ _ => rfl))) (sa_nil))) S.nd)
      (ss_cons (sx_if (st_cmp (op_eqA hu) s2_eq (se_bin op_mod s2_mod (se_bin op_fdivW s2_fdiv (mv 0) (se_int)) (se_int)) (se_int) (nomark _))
      (ss_cons (sx_set (i := 4) (se_bin op_mod s2_mod (se_bin op_fdivW s2_fdiv (mv 0) (se_int)) (se_int)) S.nd)
      (ss_cons (sx_set (i := 5) (se_bin op_mod s2_mod (se_bin op_fdivW s2_fdiv (mv 0) (se_int)) (se_int)) S.nd)
      (ss_one (sx_ret (se_lc (own := [("_law_k", 6)]) S.nd (si_range1 T.b_range (se_int)) (blkOk_by (N := ["_law_cell", "_law_letters", "_law_start", "_law_base", "_law_at", "_law_first", "_law_k"]) (sc := defScope (top 22)) (by decide +kernel)) (tg_name 6) (fun _ _ _ _ _ => pg_name (i := 6) S.nd rfl (by first | exact Or.inl rfl | exact Or.inr rfl)) (fun _ _ _ _ _ => st_nil) (fun _ _ _ _ _ => se_bin op_addA s2_add (se_bin op_addA s2_add (se_slice (mv 3) (sp_none) (sp_some (mv 4))) (se_ix ix_seq s2_ix (mv 1) (se_bin op_mod s2_mod (se_bin op_addA s2_add (mv 5) (mv 6)) (se_int)) (fun _ _ => rfl))) (se_slice (mv 3) (sp_some (se_bin op_addA s2_add (mv 4) (se_int))) (sp_none))))))))
      (ss_nil))
      (ss_cons (sx_if (st_cmp (op_eqA hu) s2_eq (se_bin op_mod s2_mod (se_bin op_fdivW s2_fdiv (mv 0) (se_int)) (se_int)) (se_int) (nomark _))
      (ss_one (sx_ret (se_bin op_addA s2_add (se_lc (own := [("_law_k", 6)]) S.nd (si_range1 T.b_range (se_int)) (blkOk_by (N := ["_law_cell", "_law_letters", "_law_start", "_law_base", "_law_at", "_law_first", "_law_k"]) (sc := defScope (top 22)) (by decide +kernel)) (tg_name 6) (fun _ _ _ _ _ => pg_name (i := 6) S.nd rfl (by first | exact Or.inl rfl | exact Or.inr rfl)) (fun _ _ _ _ _ => st_nil) (fun _ _ _ _ _ => se_slice (mv 3) (sp_none) (sp_some (se_bin op_addA s2_add (mv 6) (se_int))))) (se_lst (sa_cons (se_slice (mv 3) (sp_some (se_int)) (sp_none)) (sa_nil))))))
      (ss_nil))
      (ss_one (sx_ret (se_lc (own := [("_law_k", 6)]) S.nd (si_range1 T.b_range (se_int)) (blkOk_by (N := ["_law_cell", "_law_letters", "_law_start", "_law_base", "_law_at", "_law_first", "_law_k"]) (sc := defScope (top 22)) (by decide +kernel)) (tg_name 6) (fun _ _ _ _ _ => pg_name (i := 6) S.nd rfl (by first | exact Or.inl rfl | exact Or.inr rfl)) (fun _ _ _ _ _ => st_nil) (fun _ _ _ _ _ => se_ix ix_seq s2_ix (mv 1) (se_bin op_mod s2_mod (se_bin op_addA s2_add (mv 2) (se_bin op_mulA s2_mul (se_int) (mv 6))) (se_int)) (fun _ _ => rfl)))))))))
theorem sc__law_mix : FnScope ["_law_number", "_law_k", "_law_blend"] ["_law_number", "_law_k"] (defScope (top 19)) := ⟨rfl, rfl, rfl, by decide +kernel, rfl, by decide +kernel, by decide +kernel⟩
theorem sim__law_mix (T : Txt K mg) (d : Df K mg "_law_mix" (top 19) ["_law_number", "_law_k"]) : Cal P w K mg base "_law_mix" 1 (m_mix_1b9e1) := by
  exact cal_mk (k := 0) d sc__law_mix fun f cdv A outer s H E hr => by
   have tk : Takes (cxOf (L2.CX P w) P w K mg base ["_law_number", "_law_k", "_law_blend"] "_law_mix" (defScope (top 19)) f cdv A outer s H E) (fun c d _ H' => E c d H') := takes_of rfl rfl rfl rfl
   have hu : (A.deeper (PyProof.Rows.envOfC "_law_mix" (defScope (top 19)) s.heap.objs.size f cdv)).units + 65 < cLine := by have := hr.un; omega
   have S := sc__law_mix
   exact ss_cons (sx_set (i := 2) (se_bin op_mod s2_mod (se_bin op_mulA s2_mul (se_bin op_addA s2_add (se_bin op_addA s2_add (mv 0) (se_int)) (se_bin op_mulA s2_mul (mv 1) (mv 1))) (se_int)) (se_int)) S.nd)
      (ss_one (sx_ret (se_bin op_mod s2_mod (se_bin op_mulA s2_mul (mv 2) (se_bin op_addA s2_add (se_bin op_addA s2_add (se_bin op_fdivW s2_fdiv (mv 2) (se_int)) (se_bin op_mulA s2_mul (se_int) (mv 1))) (se_int))) (se_int))))
theorem sc__law_tape : FnScope ["_law_cell", "_law_many", "_law_found", "_law_rest", "_law_k"] ["_law_cell", "_law_many"] (defScope (top 20)) := ⟨rfl, rfl, rfl, by decide +kernel, rfl, by decide +kernel, by decide +kernel⟩
theorem sim__law_tape (T : Txt K mg) (d : Df K mg "_law_tape" (top 20) ["_law_cell", "_law_many"]) (c__law_mix : Cal P w K mg base "_law_mix" 1 (m_mix_1b9e1)) : Cal P w K mg base "_law_tape" 2 (m_tape_92891) := by
  exact cal_mk (k := 1) d sc__law_tape fun f cdv A outer s H E hr => by
   have tk : Takes (cxOf (L2.CX P w) P w K mg base ["_law_cell", "_law_many", "_law_found", "_law_rest", "_law_k"] "_law_tape" (defScope (top 20)) f cdv A outer s H E) (fun c d _ H' => E c d H') := takes_of rfl rfl rfl rfl
   have hu : (A.deeper (PyProof.Rows.envOfC "_law_tape" (defScope (top 20)) s.heap.objs.size f cdv)).units + 65 < cLine := by have := hr.un; omega
   have S := sc__law_tape
   exact ss_cons (sx_set (i := 2) (se_lst (sa_nil)) S.nd)
      (ss_cons (sx_set (i := 3) (mv 0) S.nd)
      (ss_cons (sx_for (passes_of rfl) (si_range1 T.b_range (mv 1)) (sg_name (i := 4) S.nd)
      (ss_one (sx_if (st_cmp op_ge s2_ge (mv 3) (se_bin op_pow s2_pow (se_int) (se_int)) (nomark _))
      (ss_cons (sx_expr (se_bm PySem.F.plainAttrs_list PySem.F.slot_list_append PySem.F.type_list_append mt_append sty_list sm_append (mv 2) (sa_cons (se_bin op_mod s2_mod (mv 3) (se_int)) (sa_nil))))
      (ss_one (sx_set (i := 3) (se_bin op_fdivW s2_fdiv (mv 3) (se_int)) S.nd)))
      (ss_one (sx_expr (se_bm PySem.F.plainAttrs_list PySem.F.slot_list_append PySem.F.type_list_append mt_append sty_list sm_append (mv 2) (sa_cons (se_callC c__law_mix (hr.mono (by omega)) tk (sa_cons (mv 0) (sa_cons (mv 4) (sa_nil)))) (sa_nil))))))))
      (ss_one (sx_ret (se_revL (mv 2))))))
theorem sc__law_cell_at : FnScope ["_law_script", "_law_k"] ["_law_script", "_law_k"] (defScope (top 18)) := ⟨rfl, rfl, rfl, by decide +kernel, rfl, by decide +kernel, by decide +kernel⟩
theorem sim__law_cell_at (T : Txt K mg) (d : Df K mg "_law_cell_at" (top 18) ["_law_script", "_law_k"]) : Cal P w K mg base "_law_cell_at" 1 (m_cell_at_2c4cb) := by
  exact cal_mk (k := 0) d sc__law_cell_at fun f cdv A outer s H E hr => by
   have tk : Takes (cxOf (L2.CX P w) P w K mg base ["_law_script", "_law_k"] "_law_cell_at" (defScope (top 18)) f cdv A outer s H E) (fun c d _ H' => E c d H') := takes_of rfl rfl rfl rfl
   have hu : (A.deeper (PyProof.Rows.envOfC "_law_cell_at" (defScope (top 18)) s.heap.objs.size f cdv)).units + 65 < cLine := by have := hr.un; omega
   have S := sc__law_cell_at
   exact ss_cons (sx_if (st_cmp op_lt s2_lt (mv 1) (se_callB call_len sn_len (by rfl) T.b_len (by decide +kernel) (sa_cons (mv 0) (sa_nil))) (nomark _))
      (ss_one (sx_ret (se_ix ix_seq s2_ix (mv 0) (mv 1) (fun _ _ => rfl))))
      (ss_nil))
      (ss_one (sx_ret (se_int)))
theorem sc__law_next : FnScope ["_law_tape_here", "_law_many"] ["_law_tape_here", "_law_many"] (defScope (top 21)) := ⟨rfl, rfl, rfl, by decide +kernel, rfl, by decide +kernel, by decide +kernel⟩
theorem sim__law_next (T : Txt K mg) (d : Df K mg "_law_next" (top 21) ["_law_tape_here", "_law_many"]) : Cal P w K mg base "_law_next" 1 (m_next_fea17) := by
  exact cal_mk (k := 0) d sc__law_next fun f cdv A outer s H E hr => by
   have tk : Takes (cxOf (L2.CX P w) P w K mg base ["_law_tape_here", "_law_many"] "_law_next" (defScope (top 21)) f cdv A outer s H E) (fun c d _ H' => E c d H') := takes_of rfl rfl rfl rfl
   have hu : (A.deeper (PyProof.Rows.envOfC "_law_next" (defScope (top 21)) s.heap.objs.size f cdv)).units + 65 < cLine := by have := hr.un; omega
   have S := sc__law_next
   exact ss_cons (sx_if (st_cmp (op_eqA hu) s2_eq (mv 0) (se_lst (sa_nil)) (nomark _))
      (ss_one (sx_ret (se_int)))
      (ss_nil))
      (ss_one (sx_ret (se_bin op_mod s2_mod (se_bm0 PySem.F.plainAttrs_list PySem.F.slot_list_pop PySem.F.type_list_pop mt_pop sty_list sm_pop (mv 0)) (mv 1))))
theorem sc__law_items : FnScope ["_law_tape_here", "_law_depth", "_law_pool", "_law_found", "_law_k", "_law_name"] ["_law_tape_here", "_law_depth", "_law_pool"] (defScope (top 23)) := ⟨rfl, rfl, rfl, by decide +kernel, rfl, by decide +kernel, by decide +kernel⟩
theorem sim__law_items (T : Txt K mg) (d : Df K mg "_law_items" (top 23) ["_law_tape_here", "_law_depth", "_law_pool"]) (c__law_next : Cal P w K mg base "_law_next" 1 (m_next_fea17)) : ∀ n, Cal P w K mg base "_law_items" (n + 1) (m_items_b2406 n)
 | 0 => cal_none d (fun _ _ => rfl)
 | n + 1 => by
  have c_self := sim__law_items T d c__law_next n
  have e : n + 1 + 1 = (n + 1) + 1 := by omega
  rw [e]
  exact cal_mk (k := n + 1) d sc__law_items fun f cdv A outer s H E hr => by
   have tk : Takes (cxOf (L2.CX P w) P w K mg base ["_law_tape_here", "_law_depth", "_law_pool", "_law_found", "_law_k", "_law_name"] "_law_items" (defScope (top 23)) f cdv A outer s H E) (fun c d _ H' => E c d H') := takes_of rfl rfl rfl rfl
   have hu : (A.deeper (PyProof.Rows.envOfC "_law_items" (defScope (top 23)) s.heap.objs.size f cdv)).units + 65 < cLine := by have := hr.un; omega
   have S := sc__law_items
   exact ss_cons (sx_set (i := 3) (se_lst (sa_nil)) S.nd)
      (ss_cons (sx_for (passes_of rfl) (si_range1 T.b_range (se_callC c__law_next (hr.mono (by omega)) tk (sa_cons (mv 0) (sa_cons (se_int) (sa_nil))))) (sg_name (i := 4) S.nd)
      (ss_one (sx_if (st_cmp (op_eqA hu) s2_eq (se_callC c__law_next (hr.mono (by omega)) tk (sa_cons (mv 0) (sa_cons (se_int) (sa_nil)))) (se_int) (nomark _))
      (ss_one (sx_expr (se_bm PySem.F.plainAttrs_list PySem.F.slot_list_append PySem.F.type_list_append mt_append sty_list sm_append (mv 3) (sa_cons (se_str) (sa_nil)))))
      (ss_one (sx_if (st_cmp (op_eqA hu) s2_eq (mv 1) (se_int) (nomark _))
      (ss_one (sx_expr (se_bm PySem.F.plainAttrs_list PySem.F.slot_list_append PySem.F.type_list_append mt_append sty_list sm_append (mv 3) (sa_cons (se_tup (sa_cons (se_ix ix_seq s2_ix (mv 2) (se_callC c__law_next (hr.mono (by omega)) tk (sa_cons (mv 0) (sa_cons (se_int) (sa_nil)))) (fun _ _ => rfl)) (sa_cons (se_tup (sa_nil)) (sa_nil)))) (sa_nil)))))
      (ss_cons (sx_set (i := 5) (se_ix ix_seq s2_ix (mv 2) (se_callC c__law_next (hr.mono (by omega)) tk (sa_cons (mv 0) (sa_cons (se_int) (sa_nil)))) (fun _ _ => rfl)) S.nd)
      (ss_one (sx_expr (se_bm PySem.F.plainAttrs_list PySem.F.slot_list_append PySem.F.type_list_append mt_append sty_list sm_append (mv 3) (sa_cons (se_tup (sa_cons (mv 5) (sa_cons (se_callC c_self (hr.mono (by omega)) tk (sa_cons (mv 0) (sa_cons (se_bin op_sub s2_sub (mv 1) (se_int)) (sa_cons (mv 2) (sa_nil))))) (sa_nil)))) (sa_nil)))))))))))
      (ss_one (sx_ret (se_callTy call_tupF sn_tuple (by rfl) T.b_tuple (by decide +kernel) (sa_cons (mv 3) (sa_nil))))))
theorem sc__law_turner : FnScope ["_law_script", "_law_start", "_law_most", "_law_pool", "_law_deep", "_law_first", "_law_rules", "_law_k", "_law_tape_here", "_law_depth"] ["_law_script", "_law_start", "_law_most", "_law_pool", "_law_deep"] (defScope (top 24)) := ⟨rfl, rfl, rfl, by decide +kernel, rfl, by decide +kernel, by decide +kernel⟩
theorem sim__law_turner (T : Txt K mg) (d : Df K mg "_law_turner" (top 24) ["_law_script", "_law_start", "_law_most", "_law_pool", "_law_deep"]) (c__law_cell_at : Cal P w K mg base "_law_cell_at" 1 (m_cell_at_2c4cb)) (c__law_tape : Cal P w K mg base "_law_tape" 2 (m_tape_92891)) (c__law_next : Cal P w K mg base "_law_next" 1 (m_next_fea17)) (c__law_items : Cal P w K mg base "_law_items" 101 (m_items_b2406 100)) : Cal P w K mg base "_law_turner" 102 (m_turner_aa784) := by
  exact cal_mk (k := 101) d sc__law_turner fun f cdv A outer s H E hr => by
   have tk : Takes (cxOf (L2.CX P w) P w K mg base ["_law_script", "_law_start", "_law_most", "_law_pool", "_law_deep", "_law_first", "_law_rules", "_law_k", "_law_tape_here", "_law_depth"] "_law_turner" (defScope (top 24)) f cdv A outer s H E) (fun c d _ H' => E c d H') := takes_of rfl rfl rfl rfl
   have hu : (A.deeper (PyProof.Rows.envOfC "_law_turner" (defScope (top 24)) s.heap.objs.size f cdv)).units + 65 < cLine := by have := hr.un; omega
   have S := sc__law_turner
   exact ss_cons (sx_set (i := 5) (se_callC c__law_cell_at (hr.mono (by omega)) tk (sa_cons (mv 0) (sa_cons (mv 1) (sa_nil)))) S.nd)
      (ss_cons (sx_set (i := 6) (se_lst (sa_nil)) S.nd)
      (ss_cons (sx_for (passes_of rfl) (si_range1 T.b_range (se_bin op_mod s2_mod (mv 5) (se_bin op_addA s2_add (mv 2) (se_int)))) (sg_name (i := 7) S.nd)
      (ss_cons (sx_set (i := 8) (se_callC c__law_tape (hr.mono (by omega)) tk (sa_cons (se_callC c__law_cell_at (hr.mono (by omega)) tk (sa_cons (mv 0) (sa_cons (se_bin op_addA s2_add (se_bin op_addA s2_add (mv 1) (se_int)) (mv 7)) (sa_nil)))) (sa_cons (se_int) (sa_nil)))) S.nd)
      (ss_cons (sx_set (i := 9) (se_callC c__law_next (hr.mono (by omega)) tk (sa_cons (mv 8) (sa_cons (mv 4) (sa_nil)))) S.nd)
      (ss_one (sx_expr (se_bm PySem.F.plainAttrs_list PySem.F.slot_list_append PySem.F.type_list_append mt_append sty_list sm_append (mv 6) (sa_cons (se_tup (sa_cons (se_ix ix_seq s2_ix (mv 3) (se_bin op_mod s2_mod (se_bin op_addA s2_add (se_bin op_fdivW s2_fdiv (mv 5) (se_int)) (se_bin op_mulA s2_mul (se_int) (mv 7))) (se_int)) (fun _ _ => rfl)) (sa_cons (se_callC c__law_items (hr.mono (by omega)) tk (sa_cons (mv 8) (sa_cons (mv 9) (sa_cons (mv 3) (sa_nil))))) (sa_nil)))) (sa_nil))))))))
      (ss_one (sx_ret (se_callTy call_tupF sn_tuple (by rfl) T.b_tuple (by decide +kernel) (sa_cons (mv 6) (sa_nil)))))))
theorem sc__law_name_end : FnScope ["_law_text", "_law_k"] ["_law_text", "_law_k"] (defScope (top 28)) := ⟨rfl, rfl, rfl, by decide +kernel, rfl, by decide +kernel, by decide +kernel⟩
theorem sim__law_name_end (T : Txt K mg) (d : Df K mg "_law_name_end" (top 28) ["_law_text", "_law_k"]) : Cal P w K mg base "_law_name_end" 1 (m_name_end_abafc) := by
  exact cal_mk (k := 0) d sc__law_name_end fun f cdv A outer s H E hr => by
   have tk : Takes (cxOf (L2.CX P w) P w K mg base ["_law_text", "_law_k"] "_law_name_end" (defScope (top 28)) f cdv A outer s H E) (fun c d _ H' => E c d H') := takes_of rfl rfl rfl rfl
   have hu : (A.deeper (PyProof.Rows.envOfC "_law_name_end" (defScope (top 28)) s.heap.objs.size f cdv)).units + 65 < cLine := by have := hr.un; omega
   have S := sc__law_name_end
   exact ss_cons (sx_while 100000 (passes_of rfl) ((sw_and (st_cmp op_lt s2_lt (mv 1) (se_callB call_len sn_len (by rfl) T.b_len (by decide +kernel) (sa_cons (mv 0) (sa_nil))) (nomark _)) (sw_and1 (st_cmp (op_inA hu) s2_in (se_ix ix_seq s2_ix (mv 0) (mv 1) (fun _ _ => rfl)) (se_str) rfl))).pt)
      (ss_one (sx_set (i := 1) (se_bin op_addA s2_add (mv 1) (se_int)) S.nd)))
      (ss_one (sx_ret (mv 1)))
theorem sc__law_items_of : FnScope ["_law_text", "_law_frames", "_law_heads", "_law_due", "_law_k", "_law_sign", "_law_end", "_law_inner"] ["_law_text"] (defScope (top 29)) := ⟨rfl, rfl, rfl, by decide +kernel, rfl, by decide +kernel, by decide +kernel⟩
theorem sim__law_items_of (T : Txt K mg) (d : Df K mg "_law_items_of" (top 29) ["_law_text"]) (c__law_name_end : Cal P w K mg base "_law_name_end" 1 (m_name_end_abafc)) : Cal P w K mg base "_law_items_of" 2 (m_items_of_d6f25) := by
  exact cal_mk (k := 1) d sc__law_items_of fun f cdv A outer s H E hr => by
   have tk : Takes (cxOf (L2.CX P w) P w K mg base ["_law_text", "_law_frames", "_law_heads", "_law_due", "_law_k", "_law_sign", "_law_end", "_law_inner"] "_law_items_of" (defScope (top 29)) f cdv A outer s H E) (fun c d _ H' => E c d H') := takes_of rfl rfl rfl rfl
   have hu : (A.deeper (PyProof.Rows.envOfC "_law_items_of" (defScope (top 29)) s.heap.objs.size f cdv)).units + 65 < cLine := by have := hr.un; omega
   have S := sc__law_items_of
   exact ss_cons (sx_set (i := 1) (se_lst (sa_cons (se_lst (sa_nil)) (sa_nil))) S.nd)
      (ss_cons (sx_set (i := 2) (se_lst (sa_nil)) S.nd)
      (ss_cons (sx_set (i := 3) (se_bl) S.nd)
      (ss_cons (sx_set (i := 4) (se_int) S.nd)
      (ss_cons (sx_while 100000 (passes_of rfl) (st_cmp op_lt s2_lt (mv 4) (se_callB call_len sn_len (by rfl) T.b_len (by decide +kernel) (sa_cons (mv 0) (sa_nil))) (nomark _))
      (ss_cons (sx_set (i := 5) (se_ix ix_seq s2_ix (mv 0) (mv 4) (fun _ _ => rfl)) S.nd)
      (ss_cons (sx_set (i := 6) (se_callC c__law_name_end (hr.mono (by omega)) tk (sa_cons (mv 0) (sa_cons (mv 4) (sa_nil)))) S.nd)
      (ss_cons (sx_if ((sw_and (st_val (mv 3)) (sw_and1 (st_cmp op_gt s2_gt (mv 6) (mv 4) (nomark _)))).pt)
      (ss_cons (sx_if (st_cmp op_gt s2_gt (se_bin op_sub s2_sub (mv 6) (mv 4)) (se_int) (nomark _))
      (ss_one (sx_ret (se_non)))
      (ss_nil))
      (ss_cons (sx_set (i := 3) (se_cmp (op_eqA hu) s2_eq (se_slice (mv 0) (sp_some (mv 6)) (sp_some (se_bin op_addA s2_add (mv 6) (se_int)))) (se_str) (nomark _)) S.nd)
      (ss_cons (sx_if (st_val (mv 3))
      (ss_cons (sx_expr (se_bm PySem.F.plainAttrs_list PySem.F.slot_list_append PySem.F.type_list_append mt_append sty_list sm_append (mv 2) (sa_cons (se_slice (mv 0) (sp_some (mv 4)) (sp_some (mv 6))) (sa_nil))))
      (ss_one (sx_expr (se_bm PySem.F.plainAttrs_list PySem.F.slot_list_append PySem.F.type_list_append mt_append sty_list sm_append (mv 1) (sa_cons (se_lst (sa_nil)) (sa_nil))))))
      (ss_one (sx_expr (se_bm PySem.F.plainAttrs_list PySem.F.slot_list_append PySem.F.type_list_append mt_append sty_list sm_append (se_ix ix_seq s2_ix (mv 1) (se_un un_neg s1_neg (se_int)) (fun _ _ => rfl)) (sa_cons (se_tup (sa_cons (se_slice (mv 0) (sp_some (mv 4)) (sp_some (mv 6))) (sa_cons (se_tup (sa_nil)) (sa_nil)))) (sa_nil))))))
      (ss_one (sx_set (i := 4) (se_bin op_sub s2_sub (se_bin op_addA s2_add (mv 6) (se_callTy call_int1 sn_int (by rfl) T.b_int (by decide +kernel) (sa_cons (mv 3) (sa_nil)))) (se_int)) S.nd)))))
      (ss_one (sx_if ((sw_and (st_val (mv 3)) (sw_and1 (st_cmp (op_eqA hu) s2_eq (mv 5) (se_str) (nomark _)))).pt)
      (ss_cons (sx_expr (se_bm PySem.F.plainAttrs_list PySem.F.slot_list_append PySem.F.type_list_append mt_append sty_list sm_append (se_ix ix_seq s2_ix (mv 1) (se_un un_neg s1_neg (se_int)) (fun _ _ => rfl)) (sa_cons (se_str) (sa_nil))))
      (ss_one (sx_set (i := 3) (se_bl) S.nd)))
      (ss_one (sx_if ((sw_and (st_not (st_val (mv 3))) (sw_and (st_cmp (op_eqA hu) s2_eq (mv 5) (se_str) (nomark _)) (sw_and1 (st_cmp op_gt s2_gt (se_callB call_len sn_len (by rfl) T.b_len (by decide +kernel) (sa_cons (mv 2) (sa_nil))) (se_int) (nomark _))))).pt)
      (ss_cons (sx_set (i := 7) (se_bm0 PySem.F.plainAttrs_list PySem.F.slot_list_pop PySem.F.type_list_pop mt_pop sty_list sm_pop (mv 1)) S.nd)
      (ss_one (sx_expr (se_bm PySem.F.plainAttrs_list PySem.F.slot_list_append PySem.F.type_list_append mt_append sty_list sm_append (se_ix ix_seq s2_ix (mv 1) (se_un un_neg s1_neg (se_int)) (fun _ _ => rfl)) (sa_cons (se_tup (sa_cons (se_bm0 PySem.F.plainAttrs_list PySem.F.slot_list_pop PySem.F.type_list_pop mt_pop sty_list sm_pop (mv 2)) (sa_cons (se_callTy call_tupF sn_tuple (by rfl) T.b_tuple (by decide +kernel) (sa_cons (mv 7) (sa_nil))) (sa_nil)))) (sa_nil))))))
      (ss_one (sx_if ((sw_and (st_not (st_val (mv 3))) (sw_and1 (st_cmp (op_eqA hu) s2_eq (mv 5) (se_str) (nomark _)))).pt)
      (ss_one (sx_set (i := 3) (se_bl) S.nd))
      (ss_one (sx_ret (se_non))))))))))
      (ss_one (sx_set (i := 4) (se_bin op_addA s2_add (mv 4) (se_int)) S.nd))))))
      (ss_cons (sx_if ((sw_or (st_val (mv 3)) (sw_or1 (st_cmp op_gt s2_gt (se_callB call_len sn_len (by rfl) T.b_len (by decide +kernel) (sa_cons (mv 2) (sa_nil))) (se_int) (nomark _)))).pt)
      (ss_one (sx_ret (se_non)))
      (ss_nil))
      (ss_one (sx_ret (se_callTy call_tupF sn_tuple (by rfl) T.b_tuple (by decide +kernel) (sa_cons (se_ix ix_seq s2_ix (mv 1) (se_int) (fun _ _ => rfl)) (sa_nil))))))))))
theorem sc__law_rule_of : FnScope ["_law_text", "_law_end", "_law_rest", "_law_items_here"] ["_law_text"] (defScope (top 30)) := ⟨rfl, rfl, rfl, by decide +kernel, rfl, by decide +kernel, by decide +kernel⟩
theorem sim__law_rule_of (T : Txt K mg) (d : Df K mg "_law_rule_of" (top 30) ["_law_text"]) (c__law_name_end : Cal P w K mg base "_law_name_end" 1 (m_name_end_abafc)) (c__law_items_of : Cal P w K mg base "_law_items_of" 2 (m_items_of_d6f25)) : Cal P w K mg base "_law_rule_of" 3 (m_rule_of_19f7e) := by
  exact cal_mk (k := 2) d sc__law_rule_of fun f cdv A outer s H E hr => by
   have tk : Takes (cxOf (L2.CX P w) P w K mg base ["_law_text", "_law_end", "_law_rest", "_law_items_here"] "_law_rule_of" (defScope (top 30)) f cdv A outer s H E) (fun c d _ H' => E c d H') := takes_of rfl rfl rfl rfl
   have hu : (A.deeper (PyProof.Rows.envOfC "_law_rule_of" (defScope (top 30)) s.heap.objs.size f cdv)).units + 65 < cLine := by have := hr.un; omega
   have S := sc__law_rule_of
   exact ss_cons (sx_set (i := 1) (se_callC c__law_name_end (hr.mono (by omega)) tk (sa_cons (mv 0) (sa_cons (se_int) (sa_nil)))) S.nd)
      (ss_cons (sx_if ((sw_or (st_cmp (op_eqA hu) s2_eq (mv 1) (se_int) (nomark _)) (sw_or (st_cmp op_gt s2_gt (mv 1) (se_int) (nomark _)) (sw_or1 (st_cmp (op_neA hu) s2_ne (se_slice (mv 0) (sp_some (mv 1)) (sp_some (se_bin op_addA s2_add (mv 1) (se_int)))) (se_str) (nomark _))))).pt)
      (ss_one (sx_ret (se_non)))
      (ss_nil))
      (ss_cons (sx_set (i := 2) (se_slice (mv 0) (sp_some (se_bin op_addA s2_add (mv 1) (se_int))) (sp_none)) S.nd)
      (ss_cons (sx_if (st_cmp (op_eqA hu) s2_eq (mv 2) (se_str) (nomark _))
      (ss_one (sx_ret (se_tup (sa_cons (se_slice (mv 0) (sp_none) (sp_some (mv 1))) (sa_cons (se_tup (sa_nil)) (sa_nil))))))
      (ss_nil))
      (ss_cons (sx_if (st_cmp (op_neA hu) s2_ne (se_ix ix_seq s2_ix (mv 2) (se_int) (fun _ _ => rfl)) (se_str) (nomark _))
      (ss_one (sx_ret (se_non)))
      (ss_nil))
      (ss_cons (sx_set (i := 3) (se_callC c__law_items_of (hr.mono (by omega)) tk (sa_cons (se_slice (mv 2) (sp_some (se_int)) (sp_none)) (sa_nil))) S.nd)
      (ss_cons (sx_if (st_cmp op_isN s2_isN (mv 3) (se_non) (nomark _))
      (ss_one (sx_ret (se_non)))
      (ss_nil))
      (ss_one (sx_ret (se_tup (sa_cons (se_slice (mv 0) (sp_none) (sp_some (mv 1))) (sa_cons (mv 3) (sa_nil))))))))))))
theorem sc__law_read : FnScope ["_law_text", "_law_rows", "_law_rules", "_law_k", "_law_names_here", "_law_row", "_law_rule"] ["_law_text"] (defScope (top 31)) := ⟨rfl, rfl, rfl, by decide +kernel, rfl, by decide +kernel, by decide +kernel⟩
theorem sim__law_read (T : Txt K mg) (d : Df K mg "_law_read" (top 31) ["_law_text"]) (c__law_rule_of : Cal P w K mg base "_law_rule_of" 3 (m_rule_of_19f7e)) : Cal P w K mg base "_law_read" 4 (m_read_e7a1e) := by
  exact cal_mk (k := 3) d sc__law_read fun f cdv A outer s H E hr => by
   have tk : Takes (cxOf (L2.CX P w) P w K mg base ["_law_text", "_law_rows", "_law_rules", "_law_k", "_law_names_here", "_law_row", "_law_rule"] "_law_read" (defScope (top 31)) f cdv A outer s H E) (fun c d _ H' => E c d H') := takes_of rfl rfl rfl rfl
   have hu : (A.deeper (PyProof.Rows.envOfC "_law_read" (defScope (top 31)) s.heap.objs.size f cdv)).units + 65 < cLine := by have := hr.un; omega
   have S := sc__law_read
   exact ss_cons ((by first | exact sx_setLc (own := [("_law_row", 5)]) (i := 1) S.nd (si_iter (se_bm PySem.F.plainAttrs_str PySem.F.slot_str_split PySem.F.type_str_split mt_split sty_str sm_split (mv 0) (sa_cons (se_str) (sa_nil)))) (blkOk_by (N := ["_law_text", "_law_rows", "_law_rules", "_law_k", "_law_names_here", "_law_row", "_law_rule"]) (sc := defScope (top 31)) (by decide +kernel)) (tg_name 5) (fun _ _ _ _ _ => pg_name (i := 5) S.nd rfl (by first | exact Or.inl rfl | exact Or.inr rfl)) (fun _ _ _ _ _ => st_nil) (fun _ _ _ _ _ => se_bm PySem.F.plainAttrs_str PySem.F.slot_str_strip PySem.F.type_str_strip mt_stripChars sty_str sm_stripC (mv 5) (sa_cons (se_str) (sa_nil))) | exact sx_set (i := 1) (se_lc (own := [("_law_row", 5)]) S.nd (si_iter (se_bm PySem.F.plainAttrs_str PySem.F.slot_str_split PySem.F.type_str_split mt_split sty_str sm_split (mv 0) (sa_cons (se_str) (sa_nil)))) (blkOk_by (N := ["_law_text", "_law_rows", "_law_rules", "_law_k", "_law_names_here", "_law_row", "_law_rule"]) (sc := defScope (top 31)) (by decide +kernel)) (tg_name 5) (fun _ _ _ _ _ => pg_name (i := 5) S.nd rfl (by first | exact Or.inl rfl | exact Or.inr rfl)) (fun _ _ _ _ _ => st_nil) (fun _ _ _ _ _ => se_bm PySem.F.plainAttrs_str PySem.F.slot_str_strip PySem.F.type_str_strip mt_stripChars sty_str sm_stripC (mv 5) (sa_cons (se_str) (sa_nil)))) S.nd))
      (ss_cons (sx_if (st_cmp (op_eqA hu) s2_eq (mv 1) (se_lst (sa_cons (se_str) (sa_nil))) (nomark _))
      (ss_one (sx_ret (se_tup (sa_nil))))
      (ss_nil))
      (ss_cons (sx_if (st_cmp op_gt s2_gt (se_callB call_len sn_len (by rfl) T.b_len (by decide +kernel) (sa_cons (mv 1) (sa_nil))) (se_int) (nomark _))
      (ss_one (sx_ret (se_int)))
      (ss_nil))
      (ss_cons ((by first | exact sx_setLc (own := [("_law_row", 5)]) (i := 2) S.nd (si_iter (mv 1)) (blkOk_by (N := ["_law_text", "_law_rows", "_law_rules", "_law_k", "_law_names_here", "_law_row", "_law_rule"]) (sc := defScope (top 31)) (by decide +kernel)) (tg_name 5) (fun _ _ _ _ _ => pg_name (i := 5) S.nd rfl (by first | exact Or.inl rfl | exact Or.inr rfl)) (fun _ _ _ _ _ => st_nil) (fun _ _ _ _ _ => se_callC c__law_rule_of (hr.mono (by omega)) takes0 (sa_cons (mv 5) (sa_nil))) | exact sx_set (i := 2) (se_lc (own := [("_law_row", 5)]) S.nd (si_iter (mv 1)) (blkOk_by (N := ["_law_text", "_law_rows", "_law_rules", "_law_k", "_law_names_here", "_law_row", "_law_rule"]) (sc := defScope (top 31)) (by decide +kernel)) (tg_name 5) (fun _ _ _ _ _ => pg_name (i := 5) S.nd rfl (by first | exact Or.inl rfl | exact Or.inr rfl)) (fun _ _ _ _ _ => st_nil) (fun _ _ _ _ _ => se_callC c__law_rule_of (hr.mono (by omega)) takes0 (sa_cons (mv 5) (sa_nil)))) S.nd))
      (ss_cons (sx_for (passes_of rfl) (si_range1 T.b_range (se_callB call_len sn_len (by rfl) T.b_len (by decide +kernel) (sa_cons (mv 2) (sa_nil)))) (sg_name (i := 3) S.nd)
      (ss_one (sx_if (st_cmp op_isN s2_isN (se_ix ix_seq s2_ix (mv 2) (mv 3) (fun _ _ => rfl)) (se_non) (nomark _))
      (ss_one (sx_ret (mv 3)))
      (ss_nil))))
      (ss_cons ((by first | exact sx_setLc (own := [("_law_rule", 6)]) (i := 4) S.nd (si_iter (mv 2)) (blkOk_by (N := ["_law_text", "_law_rows", "_law_rules", "_law_k", "_law_names_here", "_law_row", "_law_rule"]) (sc := defScope (top 31)) (by decide +kernel)) (tg_name 6) (fun _ _ _ _ _ => pg_name (i := 6) S.nd rfl (by first | exact Or.inl rfl | exact Or.inr rfl)) (fun _ _ _ _ _ => st_nil) (fun _ _ _ _ _ => se_ix ix_seq s2_ix (mv 6) (se_int) (fun _ _ => rfl)) | exact sx_set (i := 4) (se_lc (own := [("_law_rule", 6)]) S.nd (si_iter (mv 2)) (blkOk_by (N := ["_law_text", "_law_rows", "_law_rules", "_law_k", "_law_names_here", "_law_row", "_law_rule"]) (sc := defScope (top 31)) (by decide +kernel)) (tg_name 6) (fun _ _ _ _ _ => pg_name (i := 6) S.nd rfl (by first | exact Or.inl rfl | exact Or.inr rfl)) (fun _ _ _ _ _ => st_nil) (fun _ _ _ _ _ => se_ix ix_seq s2_ix (mv 6) (se_int) (fun _ _ => rfl))) S.nd))
      (ss_cons (sx_for (passes_of rfl) (si_range1 T.b_range (se_callB call_len sn_len (by rfl) T.b_len (by decide +kernel) (sa_cons (mv 4) (sa_nil)))) (sg_name (i := 3) S.nd)
      (ss_one (sx_if (st_cmp (op_inA hu) s2_in (se_ix ix_seq s2_ix (mv 4) (mv 3) (fun _ _ => rfl)) (se_slice (mv 4) (sp_none) (sp_some (mv 3))) rfl)
      (ss_one (sx_ret (mv 3)))
      (ss_nil))))
      (ss_one (sx_ret (se_callTy call_tupF sn_tuple (by rfl) T.b_tuple (by decide +kernel) (sa_cons (mv 2) (sa_nil)))))))))))
theorem sc__law_changed : FnScope ["_law_text", "_law_tape_here", "_law_pool", "_law_signs", "_law_way", "_law_at", "_law_some", "_law_name"] ["_law_text", "_law_tape_here", "_law_pool"] (defScope (top 32)) := ⟨rfl, rfl, rfl, by decide +kernel, rfl, by decide +kernel, by decide +kernel⟩
theorem sim__law_changed (T : Txt K mg) (d : Df K mg "_law_changed" (top 32) ["_law_text", "_law_tape_here", "_law_pool"]) (c__law_next : Cal P w K mg base "_law_next" 1 (m_next_fea17)) : Cal P w K mg base "_law_changed" 2 (m_changed_d6066) := by
  exact cal_mk (k := 1) d sc__law_changed fun f cdv A outer s H E hr => by
   have tk : Takes (cxOf (L2.CX P w) P w K mg base ["_law_text", "_law_tape_here", "_law_pool", "_law_signs", "_law_way", "_law_at", "_law_some", "_law_name"] "_law_changed" (defScope (top 32)) f cdv A outer s H E) (fun c d _ H' => E c d H') := takes_of rfl rfl rfl rfl
   have hu : (A.deeper (PyProof.Rows.envOfC "_law_changed" (defScope (top 32)) s.heap.objs.size f cdv)).units + 65 < cLine := by have := hr.un; omega
   have S := sc__law_changed
   exact ss_cons (sx_set (i := 3) (se_lst (sa_cons (se_str) (sa_cons (se_str) (sa_cons (se_str) (sa_cons (se_str) (sa_cons (se_str) (sa_cons (se_str) (sa_cons (se_str) (sa_cons (se_str) (sa_cons (se_str) (sa_cons (se_str) (sa_cons (se_str) (sa_cons (se_str) (sa_cons (se_str) (sa_cons (se_str) (sa_cons (se_str) (sa_cons (se_str) (sa_cons (se_str) (sa_cons (se_str) (sa_nil)))))))))))))))))))) S.nd)
      (ss_cons (sx_set (i := 4) (se_callC c__law_next (hr.mono (by omega)) tk (sa_cons (mv 1) (sa_cons (se_int) (sa_nil)))) S.nd)
      (ss_cons (sx_set (i := 5) (se_callC c__law_next (hr.mono (by omega)) tk (sa_cons (mv 1) (sa_cons (se_bin op_addA s2_add (se_callB call_len sn_len (by rfl) T.b_len (by decide +kernel) (sa_cons (mv 0) (sa_nil))) (se_int)) (sa_nil)))) S.nd)
      (ss_cons (sx_set (i := 6) (se_ix ix_seq s2_ix (mv 3) (se_callC c__law_next (hr.mono (by omega)) tk (sa_cons (mv 1) (sa_cons (se_int) (sa_nil)))) (fun _ _ => rfl)) S.nd)
      (ss_cons (sx_if (st_cmp op_lt s2_lt (mv 4) (se_int) (nomark _))
      (ss_one (sx_ret (se_bin op_addA s2_add (se_slice (mv 0) (sp_none) (sp_some (mv 5))) (se_slice (mv 0) (sp_some (se_bin op_addA s2_add (mv 5) (se_int))) (sp_none)))))
      (ss_nil))
      (ss_cons (sx_if (st_cmp op_lt s2_lt (mv 4) (se_int) (nomark _))
      (ss_one (sx_ret (se_bin op_addA s2_add (se_bin op_addA s2_add (se_slice (mv 0) (sp_none) (sp_some (mv 5))) (mv 6)) (se_slice (mv 0) (sp_some (mv 5)) (sp_none)))))
      (ss_nil))
      (ss_cons (sx_if (st_cmp op_lt s2_lt (mv 4) (se_int) (nomark _))
      (ss_one (sx_ret (se_bin op_addA s2_add (se_bin op_addA s2_add (se_slice (mv 0) (sp_none) (sp_some (mv 5))) (mv 6)) (se_slice (mv 0) (sp_some (se_bin op_addA s2_add (mv 5) (se_int))) (sp_none)))))
      (ss_nil))
      (ss_cons (sx_if (st_cmp (op_eqA hu) s2_eq (mv 4) (se_int) (nomark _))
      (ss_one (sx_ret (se_bin op_addA s2_add (se_bin op_addA s2_add (se_bin op_addA s2_add (mv 0) (se_str)) (se_ix ix_seq s2_ix (mv 2) (se_callC c__law_next (hr.mono (by omega)) tk (sa_cons (mv 1) (sa_cons (se_int) (sa_nil)))) (fun _ _ => rfl))) (se_str))))
      (ss_nil))
      (ss_one (sx_ret (se_bin op_addA s2_add (se_bin op_addA s2_add (mv 0) (se_str)) (se_bm PySem.F.plainAttrs_str PySem.F.slot_str_join PySem.F.type_str_join mt_join sty_str sm_join (se_str) (sa_cons (se_lc (own := [("_law_name", 7)]) S.nd (si_iter (se_slice (mv 2) (sp_none) (sp_some (se_int)))) (blkOk_by (N := ["_law_text", "_law_tape_here", "_law_pool", "_law_signs", "_law_way", "_law_at", "_law_some", "_law_name"]) (sc := defScope (top 32)) (by decide +kernel)) (tg_name 7) (fun _ _ _ _ _ => pg_name (i := 7) S.nd rfl (by first | exact Or.inl rfl | exact Or.inr rfl)) (fun _ _ _ _ _ => st_nil) (fun _ _ _ _ _ => se_bin op_addA s2_add (mv 7) (se_str))) (sa_nil)))))))))))))
theorem sc_ItemReader___init__ : FnScope ["self", "text"] ["self", "text"] (defScope (inner (top 13) 0)) := ⟨rfl, rfl, rfl, by decide +kernel, rfl, by decide +kernel, by decide +kernel⟩
theorem sim_ItemReader___init__ (T : Txt K mg) (d : Di K mg "ItemReader" "ItemReader.__init__" (inner (top 13) 0) ["self", "text"]) : MkOf P w K mg base "ItemReader" 1 (m_ItemReader___init___aeb78) := by
  exact mkof_mk (k := 0) d sc_ItemReader___init__ fun f cdv A outer s H E hr => by
   have tk : Takes (cxOf (L2.CX P w) P w K mg base ["self", "text"] "ItemReader.__init__" (defScope (inner (top 13) 0)) f cdv A outer s H E) (fun c d _ H' => E c d H') := takes_of rfl rfl rfl rfl
   have hu : (A.deeper (PyProof.Rows.envOfC "ItemReader.__init__" (defScope (inner (top 13) 0)) s.heap.objs.size f cdv)).units + 65 < cLine := by have := hr.un; omega
   have S := sc_ItemReader___init__
   exact ss_cons (sx_setFld T.ct_text (mv 0) (mv 1))
      (ss_one (sx_setFld T.ct_at (mv 0) (se_int)))
theorem sc_ItemReader_meets : FnScope ["self", "sign"] ["self", "sign"] (defScope (inner (top 13) 1)) := ⟨rfl, rfl, rfl, by decide +kernel, rfl, by decide +kernel, by decide +kernel⟩
theorem sim_ItemReader_meets (T : Txt K mg) (d : Dm K "ItemReader" "meets" "ItemReader.meets" (inner (top 13) 1) ["self", "sign"]) : MtOf P w K mg base "ItemReader" "meets" 1 (m_ItemReader_meets_df593) := by
  exact mtof_mk (k := 0) d sc_ItemReader_meets fun f cdv A outer s H E hr => by
   have tk : Takes (cxOf (L2.CX P w) P w K mg base ["self", "sign"] "ItemReader.meets" (defScope (inner (top 13) 1)) f cdv A outer s H E) (fun c d _ H' => E c d H') := takes_of rfl rfl rfl rfl
   have hu : (A.deeper (PyProof.Rows.envOfC "ItemReader.meets" (defScope (inner (top 13) 1)) s.heap.objs.size f cdv)).units + 65 < cLine := by have := hr.un; omega
   have S := sc_ItemReader_meets
   exact ss_cons (sx_if (st_cmp (op_neA hu) s2_ne (se_slice (se_fld T.ct_text (mv 0)) (sp_some (se_fld T.ct_at (mv 0))) (sp_some (se_bin op_addA s2_add (se_fld T.ct_at (mv 0)) (se_int)))) (mv 1) (nomark _))
      (ss_one (sx_ret (se_bl)))
      (ss_nil))
      (ss_cons (sx_setFld T.ct_at (mv 0) (se_bin op_addA s2_add (se_fld T.ct_at (mv 0)) (se_int)))
      (ss_one (sx_ret (se_bl))))
theorem sc_is_name : FnScope ["thing", "sign"] ["thing"] (defScope (top 9)) := ⟨rfl, rfl, rfl, by decide +kernel, rfl, by decide +kernel, by decide +kernel⟩
theorem sim_is_name (T : Txt K mg) (d : Df K mg "is_name" (top 9) ["thing"]) : Cal P w K mg base "is_name" 1 (m_is_name_e273d) := by
  obtain ⟨t_LETTERS_docs, g_LETTERS_docs⟩ := T.g_LETTERS_docs
  exact cal_mk (k := 0) d sc_is_name fun f cdv A outer s H E hr => by
   have tk : Takes (cxOf (L2.CX P w) P w K mg base ["thing", "sign"] "is_name" (defScope (top 9)) f cdv A outer s H E) (fun c d _ H' => E c d H') := takes_of rfl rfl rfl rfl
   have hu : (A.deeper (PyProof.Rows.envOfC "is_name" (defScope (top 9)) s.heap.objs.size f cdv)).units + 65 < cLine := by have := hr.un; omega
   have S := sc_is_name
   exact ss_cons (sx_if ((sw_or (st_not (st_val (se_isi (mv 0) T.b_isinstance T.b_str (by decide +kernel)))) (sw_or (st_cmp op_lt s2_lt (se_callB call_len sn_len (by rfl) T.b_len (by decide +kernel) (sa_cons (mv 0) (sa_nil))) (se_int) (nomark _)) (sw_or1 (st_cmp op_gt s2_gt (se_callB call_len sn_len (by rfl) T.b_len (by decide +kernel) (sa_cons (mv 0) (sa_nil))) (se_int) (nomark _))))).pt)
      (ss_one (sx_ret (se_bl)))
      (ss_nil))
      (ss_cons (sx_for (passes_of rfl) (si_iter (mv 0)) (sg_name (i := 1) S.nd)
      (ss_one (sx_if (st_cmp (op_notInA hu) s2_notIn (mv 1) (se_globS (by rfl) g_LETTERS_docs) rfl)
      (ss_one (sx_ret (se_bl)))
      (ss_nil))))
      (ss_one (sx_ret (se_bl))))
theorem sc_ItemReader_item : FnScope ["self", "start", "name", "inner"] ["self"] (defScope (inner (top 13) 3)) := ⟨rfl, rfl, rfl, by decide +kernel, rfl, by decide +kernel, by decide +kernel⟩
theorem sim_ItemReader_item (T : Txt K mg) (d : Dm K "ItemReader" "item" "ItemReader.item" (inner (top 13) 3) ["self"]) (c_ItemReader_meets : MtOf P w K mg base "ItemReader" "meets" 1 (m_ItemReader_meets_df593)) (c_is_name : Cal P w K mg base "is_name" 1 (m_is_name_e273d)) {k : Nat} {S : Nat → List D → MH → R D} (hk : 1 ≤ k) (c_ItemReader_item_row : MtOf P w K mg base "ItemReader" "item_row" k (S 1)) : MtOf P w K mg base "ItemReader" "item" (k + 1) (m_ItemReader_item_b5416 S) := by
  obtain ⟨t_HOLE, g_HOLE⟩ := T.g_HOLE
  obtain ⟨t_LETTERS_turntexts, g_LETTERS_turntexts⟩ := T.g_LETTERS_turntexts
  exact mtof_mk (k := k) d sc_ItemReader_item fun f cdv A outer s H E hr => by
   have tk : Takes (cxOf (L2.CX P w) P w K mg base ["self", "start", "name", "inner"] "ItemReader.item" (defScope (inner (top 13) 3)) f cdv A outer s H E) (fun c d _ H' => E c d H') := takes_of rfl rfl rfl rfl
   have hu : (A.deeper (PyProof.Rows.envOfC "ItemReader.item" (defScope (inner (top 13) 3)) s.heap.objs.size f cdv)).units + 65 < cLine := by have := hr.un; omega
   have SC := sc_ItemReader_item
   exact ss_cons (sx_if (st_val (se_meth (k := k) (mt_cons (MtOf.mono c_ItemReader_meets (by omega)) (mt_nil)) (hr.mono (by omega)) tk (mv 0) (sa_cons (se_globS (by rfl) g_HOLE) (sa_nil))))
      (ss_one (sx_ret (se_globS (by rfl) g_HOLE)))
      (ss_nil))
      (ss_cons (sx_set (i := 1) (se_fld T.ct_at (mv 0)) SC.nd)
      (ss_cons (sx_while 100000 (passes_of rfl) ((sw_and (st_cmp op_lt s2_lt (se_fld T.ct_at (mv 0)) (se_callB call_len sn_len (by rfl) T.b_len (by decide +kernel) (sa_cons (se_fld T.ct_text (mv 0)) (sa_nil))) (nomark _)) (sw_and1 (st_cmp (op_inA hu) s2_in (se_ix ix_seq s2_ix (se_fld T.ct_text (mv 0)) (se_fld T.ct_at (mv 0)) (fun _ _ => rfl)) (se_globS (by rfl) g_LETTERS_turntexts) rfl))).pt)
      (ss_one (sx_setFld T.ct_at (mv 0) (se_bin op_addA s2_add (se_fld T.ct_at (mv 0)) (se_int)))))
      (ss_cons (sx_set (i := 2) (se_slice (se_fld T.ct_text (mv 0)) (sp_some (mv 1)) (sp_some (se_fld T.ct_at (mv 0)))) SC.nd)
      (ss_cons (sx_if (st_not (st_val (se_callC c_is_name (hr.mono (by omega)) tk (sa_cons (mv 2) (sa_nil)))))
      (ss_one (sx_ret (se_non)))
      (ss_nil))
      (ss_cons (sx_if (st_not (st_val (se_meth (k := k) (mt_cons (MtOf.mono c_ItemReader_meets (by omega)) (mt_nil)) (hr.mono (by omega)) tk (mv 0) (sa_cons (se_str) (sa_nil)))))
      (ss_one (sx_ret (se_tup (sa_cons (mv 2) (sa_cons (se_tup (sa_nil)) (sa_nil))))))
      (ss_nil))
      (ss_cons (sx_set (i := 3) (se_meth0 (k := k) (mt_cons (MtOf.mono c_ItemReader_item_row (by omega)) (mt_nil)) (hr.mono (by omega)) tk (mv 0)) SC.nd)
      (ss_cons (sx_if ((sw_or (st_cmp op_isN s2_isN (mv 3) (se_non) (nomark _)) (sw_or1 (st_not (st_val (se_meth (k := k) (mt_cons (MtOf.mono c_ItemReader_meets (by omega)) (mt_nil)) (hr.mono (by omega)) tk (mv 0) (sa_cons (se_str) (sa_nil))))))).pt)
      (ss_one (sx_ret (se_non)))
      (ss_nil))
      (ss_one (sx_ret (se_tup (sa_cons (mv 2) (sa_cons (mv 3) (sa_nil)))))))))))))
theorem sc_ItemReader_item_row : FnScope ["self", "found", "item"] ["self"] (defScope (inner (top 13) 2)) := ⟨rfl, rfl, rfl, by decide +kernel, rfl, by decide +kernel, by decide +kernel⟩
theorem sim_ItemReader_item_row (T : Txt K mg) (d : Dm K "ItemReader" "item_row" "ItemReader.item_row" (inner (top 13) 2) ["self"]) (c_ItemReader_meets : MtOf P w K mg base "ItemReader" "meets" 1 (m_ItemReader_meets_df593)) {k : Nat} {S : Nat → List D → MH → R D} (hk : 1 ≤ k) (c_ItemReader_item : MtOf P w K mg base "ItemReader" "item" k (S 0)) : MtOf P w K mg base "ItemReader" "item_row" (k + 1) (m_ItemReader_item_row_ccf77 S) := by
  exact mtof_mk (k := k) d sc_ItemReader_item_row fun f cdv A outer s H E hr => by
   have tk : Takes (cxOf (L2.CX P w) P w K mg base ["self", "found", "item"] "ItemReader.item_row" (defScope (inner (top 13) 2)) f cdv A outer s H E) (fun c d _ H' => E c d H') := takes_of rfl rfl rfl rfl
   have hu : (A.deeper (PyProof.Rows.envOfC "ItemReader.item_row" (defScope (inner (top 13) 2)) s.heap.objs.size f cdv)).units + 65 < cLine := by have := hr.un; omega
   have SC := sc_ItemReader_item_row
   exact ss_cons (sx_set (i := 1) (se_lst (sa_nil)) SC.nd)
      (ss_one (sx_while 100000 (passes_of rfl) (st_val (se_bl))
      (ss_cons (sx_set (i := 2) (se_meth0 (k := k) (mt_cons (MtOf.mono c_ItemReader_item (by omega)) (mt_nil)) (hr.mono (by omega)) tk (mv 0)) SC.nd)
      (ss_cons (sx_if (st_cmp op_isN s2_isN (mv 2) (se_non) (nomark _))
      (ss_one (sx_ret (se_non)))
      (ss_nil))
      (ss_cons (sx_expr (se_bm PySem.F.plainAttrs_list PySem.F.slot_list_append PySem.F.type_list_append mt_append sty_list sm_append (mv 1) (sa_cons (mv 2) (sa_nil))))
      (ss_one (sx_if (st_not (st_val (se_meth (k := k) (mt_cons (MtOf.mono c_ItemReader_meets (by omega)) (mt_nil)) (hr.mono (by omega)) tk (mv 0) (sa_cons (se_str) (sa_nil)))))
      (ss_one (sx_ret (se_callTy call_tupF sn_tuple (by rfl) T.b_tuple (by decide +kernel) (sa_cons (mv 1) (sa_nil)))))
      (ss_nil))))))))
theorem simg_ItemReader_item (T : Txt K mg) (d_ItemReader_item : Dm K "ItemReader" "item" "ItemReader.item" (inner (top 13) 3) ["self"]) (d_ItemReader_item_row : Dm K "ItemReader" "item_row" "ItemReader.item_row" (inner (top 13) 2) ["self"]) (c_ItemReader_meets : MtOf P w K mg base "ItemReader" "meets" 1 (m_ItemReader_meets_df593)) (c_is_name : Cal P w K mg base "is_name" 1 (m_is_name_e273d)) : ∀ n, (MtOf P w K mg base "ItemReader" "item" (n + 1) (m_scc_ItemReader_item_79300 n 0)) ∧ (MtOf P w K mg base "ItemReader" "item_row" (n + 1) (m_scc_ItemReader_item_79300 n 1))
 | 0 => ⟨mtof_none d_ItemReader_item (fun _ _ => rfl), mtof_none d_ItemReader_item_row (fun _ _ => rfl)⟩
 | n + 1 => by
  obtain ⟨i_ItemReader_item, i_ItemReader_item_row⟩ := simg_ItemReader_item T d_ItemReader_item d_ItemReader_item_row c_ItemReader_meets c_is_name n
  have e : n + 1 + 1 = (n + 1) + 1 := by omega
  rw [e]
  exact ⟨sim_ItemReader_item T d_ItemReader_item c_ItemReader_meets c_is_name (by omega) i_ItemReader_item_row, sim_ItemReader_item_row T d_ItemReader_item_row c_ItemReader_meets (by omega) i_ItemReader_item⟩
theorem sc_read_items : FnScope ["text", "reader", "found"] ["text"] (defScope (top 14)) := ⟨rfl, rfl, rfl, by decide +kernel, rfl, by decide +kernel, by decide +kernel⟩
theorem sim_read_items (T : Txt K mg) (d : Df K mg "read_items" (top 14) ["text"]) (c_ItemReader___init__ : MkOf P w K mg base "ItemReader" 1 (m_ItemReader___init___aeb78)) (c_ItemReader_item_row : MtOf P w K mg base "ItemReader" "item_row" 71 (m_scc_ItemReader_item_79300 70 1)) : Cal P w K mg base "read_items" 72 (m_read_items_0cc23) := by
  exact cal_mk (k := 71) d sc_read_items fun f cdv A outer s H E hr => by
   have tk : Takes (cxOf (L2.CX P w) P w K mg base ["text", "reader", "found"] "read_items" (defScope (top 14)) f cdv A outer s H E) (fun c d _ H' => E c d H') := takes_of rfl rfl rfl rfl
   have hu : (A.deeper (PyProof.Rows.envOfC "read_items" (defScope (top 14)) s.heap.objs.size f cdv)).units + 65 < cLine := by have := hr.un; omega
   have S := sc_read_items
   exact ss_cons (sx_set (i := 1) (se_new c_ItemReader___init__ (hr.mono (by omega)) tk (sa_cons (mv 0) (sa_nil))) S.nd)
      (ss_cons (sx_set (i := 2) (se_meth0 (k := 71) (mt_cons (MtOf.mono c_ItemReader_item_row (by omega)) (mt_nil)) (hr.mono (by omega)) tk (mv 1)) S.nd)
      (ss_cons (sx_if (st_cmp op_lt s2_lt (se_fld T.ct_at (mv 1)) (se_callB call_len sn_len (by rfl) T.b_len (by decide +kernel) (sa_cons (mv 0) (sa_nil))) (nomark _))
      (ss_one (sx_ret (se_non)))
      (ss_nil))
      (ss_one (sx_ret (mv 2)))))
theorem sc_read_turn : FnScope ["text", "items", "name", "arrow", "rest"] ["text"] (defScope (top 15)) := ⟨rfl, rfl, rfl, by decide +kernel, rfl, by decide +kernel, by decide +kernel⟩
theorem sim_read_turn (T : Txt K mg) (d : Df K mg "read_turn" (top 15) ["text"]) (c_is_name : Cal P w K mg base "is_name" 1 (m_is_name_e273d)) (c_read_items : Cal P w K mg base "read_items" 72 (m_read_items_0cc23)) : Cal P w K mg base "read_turn" 73 (m_read_turn_2bcea) := by
  exact cal_mk (k := 72) d sc_read_turn fun f cdv A outer s H E hr => by
   have tk : Takes (cxOf (L2.CX P w) P w K mg base ["text", "items", "name", "arrow", "rest"] "read_turn" (defScope (top 15)) f cdv A outer s H E) (fun c d _ H' => E c d H') := takes_of rfl rfl rfl rfl
   have hu : (A.deeper (PyProof.Rows.envOfC "read_turn" (defScope (top 15)) s.heap.objs.size f cdv)).units + 65 < cLine := by have := hr.un; omega
   have S := sc_read_turn
   exact ss_cons (sx_setT (se_bm PySem.F.plainAttrs_str PySem.F.slot_str_partition PySem.F.type_str_partition mt_partF sty_str sm_part (mv 0) (sa_cons (se_str) (sa_nil))) (sg_tup (sgs_cons (sg_name (i := 2) S.nd) (sgs_cons (sg_name (i := 3) S.nd) (sgs_cons (sg_name (i := 4) S.nd) (sgs_nil)))) (many_cons (many_cons (many_cons many_nil)))))
      (ss_cons (sx_if ((sw_or (st_not (st_val (se_callC c_is_name (hr.mono (by omega)) tk (sa_cons (mv 2) (sa_nil))))) (sw_or1 (st_cmp (op_eqA hu) s2_eq (mv 3) (se_str) (nomark _)))).pt)
      (ss_one (sx_ret (se_non)))
      (ss_nil))
      (ss_cons (sx_if (st_cmp (op_eqA hu) s2_eq (mv 4) (se_str) (nomark _))
      (ss_one (sx_ret (se_tup (sa_cons (mv 2) (sa_cons (se_tup (sa_nil)) (sa_nil))))))
      (ss_nil))
      (ss_cons (sx_if (st_not (st_val (se_bm PySem.F.plainAttrs_str PySem.F.slot_str_startswith PySem.F.type_str_startswith mt_startswith sty_str sm_startsw (mv 4) (sa_cons (se_str) (sa_nil)))))
      (ss_one (sx_ret (se_non)))
      (ss_nil))
      (ss_cons (sx_set (i := 1) (se_callC c_read_items (hr.mono (by omega)) tk (sa_cons (se_slice (mv 4) (sp_some (se_int)) (sp_none)) (sa_nil))) S.nd)
      (ss_cons (sx_if (st_cmp op_isN s2_isN (mv 1) (se_non) (nomark _))
      (ss_one (sx_ret (se_non)))
      (ss_nil))
      (ss_one (sx_ret (se_tup (sa_cons (mv 2) (sa_cons (mv 1) (sa_nil)))))))))))
theorem sc_read_turner : FnScope ["text", "rows", "rules", "known", "rule", "row"] ["text"] (defScope (top 16)) := ⟨rfl, rfl, rfl, by decide +kernel, rfl, by decide +kernel, by decide +kernel⟩
theorem sim_read_turner (T : Txt K mg) (d : Df K mg "read_turner" (top 16) ["text"]) (c_read_turn : Cal P w K mg base "read_turn" 73 (m_read_turn_2bcea)) (xi_NoTurner : XI P w K mg base "NoTurner" "row") : Cal P w K mg base "read_turner" 74 (m_read_turner_c16d3) := by
  obtain ⟨t_TURNS, g_TURNS⟩ := T.g_TURNS
  exact cal_mk (k := 73) d sc_read_turner fun f cdv A outer s H E hr => by
   have tk : Takes (cxOf (L2.CX P w) P w K mg base ["text", "rows", "rules", "known", "rule", "row"] "read_turner" (defScope (top 16)) f cdv A outer s H E) (fun c d _ H' => E c d H') := takes_of rfl rfl rfl rfl
   have hu : (A.deeper (PyProof.Rows.envOfC "read_turner" (defScope (top 16)) s.heap.objs.size f cdv)).units + 65 < cLine := by have := hr.un; omega
   have S := sc_read_turner
   exact ss_cons (sx_if (st_cmp (op_eqA hu) s2_eq (se_bm PySem.F.plainAttrs_str PySem.F.slot_str_strip PySem.F.type_str_strip mt_stripChars sty_str sm_stripC (mv 0) (sa_cons (se_str) (sa_nil))) (se_str) (nomark _))
      (ss_one (sx_ret (se_tup (sa_nil))))
      (ss_nil))
      (ss_cons (sx_set (i := 1) (se_bm PySem.F.plainAttrs_str PySem.F.slot_str_split PySem.F.type_str_split mt_split sty_str sm_split (mv 0) (sa_cons (se_str) (sa_nil))) S.nd)
      (ss_cons (sx_if (st_cmp op_gt s2_gt (se_callB call_len sn_len (by rfl) T.b_len (by decide +kernel) (sa_cons (mv 1) (sa_nil))) (se_globI (by rfl) g_TURNS) (nomark _))
      (ss_one (sx_raise (f := "row") xi_NoTurner (hr.mono (by omega)) tk (se_globI (by rfl) g_TURNS)))
      (ss_nil))
      (ss_cons ((by first | exact sx_setLc (own := [("row", 5)]) (i := 2) S.nd (si_iter (mv 1)) (blkOk_by (N := ["text", "rows", "rules", "known", "rule", "row"]) (sc := defScope (top 16)) (by decide +kernel)) (tg_name 5) (fun _ _ _ _ _ => pg_name (i := 5) S.nd rfl (by first | exact Or.inl rfl | exact Or.inr rfl)) (fun _ _ _ _ _ => st_nil) (fun _ _ _ _ _ => se_callC c_read_turn (hr.mono (by omega)) takes0 (sa_cons (se_bm PySem.F.plainAttrs_str PySem.F.slot_str_strip PySem.F.type_str_strip mt_stripChars sty_str sm_stripC (mv 5) (sa_cons (se_str) (sa_nil))) (sa_nil))) | exact sx_set (i := 2) (se_lc (own := [("row", 5)]) S.nd (si_iter (mv 1)) (blkOk_by (N := ["text", "rows", "rules", "known", "rule", "row"]) (sc := defScope (top 16)) (by decide +kernel)) (tg_name 5) (fun _ _ _ _ _ => pg_name (i := 5) S.nd rfl (by first | exact Or.inl rfl | exact Or.inr rfl)) (fun _ _ _ _ _ => st_nil) (fun _ _ _ _ _ => se_callC c_read_turn (hr.mono (by omega)) takes0 (sa_cons (se_bm PySem.F.plainAttrs_str PySem.F.slot_str_strip PySem.F.type_str_strip mt_stripChars sty_str sm_stripC (mv 5) (sa_cons (se_str) (sa_nil))) (sa_nil)))) S.nd))
      (ss_cons (sx_if (st_cmp (op_inA hu) s2_in (se_non) (mv 2) rfl)
      (ss_one (sx_raise (f := "row") xi_NoTurner (hr.mono (by omega)) tk (se_bm PySem.F.plainAttrs_list PySem.F.slot_list_index PySem.F.type_list_index (mt_indexD hu) sty_list sm_lidx (mv 2) (sa_cons (se_non) (sa_nil)))))
      (ss_nil))
      (ss_cons (sx_set (i := 3) (se_dict0) S.nd)
      (ss_cons (sx_for (passes_of rfl) (si_iter (mv 2)) (sg_name (i := 4) S.nd)
      (ss_cons (sx_if (st_cmp (op_dIn hu) s2_dIn (se_ix ix_seq s2_ix (mv 4) (se_int) (fun _ _ => rfl)) (mv 3) rfl)
      (ss_one (sx_raise (f := "row") xi_NoTurner (hr.mono (by omega)) tk (se_callB cr_lenK sn_lenK (by rfl) T.b_len (by decide +kernel) (sa_cons (mv 3) (sa_nil)))))
      (ss_nil))
      (ss_one (sx_dset hu (mv 3) (se_ix ix_seq s2_ix (mv 4) (se_int) (fun _ _ => rfl)) (se_bl)))))
      (ss_one (sx_ret (se_callTy call_tupF sn_tuple (by rfl) T.b_tuple (by decide +kernel) (sa_cons (mv 2) (sa_nil)))))))))))
theorem sc__law_same : FnScope ["_law_found", "_law_due", "_law_a", "_law_b"] ["_law_found", "_law_due"] (defScope (top 27)) := ⟨rfl, rfl, rfl, by decide +kernel, rfl, by decide +kernel, by decide +kernel⟩
theorem sim__law_same (T : Txt K mg) (d : Df K mg "_law_same" (top 27) ["_law_found", "_law_due"]) : ∀ n, Cal P w K mg base "_law_same" (n + 1) (m_same_3d8da n)
 | 0 => cal_none d (fun _ _ => rfl)
 | n + 1 => by
  have c_self := sim__law_same T d n
  have e : n + 1 + 1 = (n + 1) + 1 := by omega
  rw [e]
  exact cal_mk (k := n + 1) d sc__law_same fun f cdv A outer s H E hr => by
   have tk : Takes (cxOf (L2.CX P w) P w K mg base ["_law_found", "_law_due", "_law_a", "_law_b"] "_law_same" (defScope (top 27)) f cdv A outer s H E) (fun c d _ H' => E c d H') := takes_of rfl rfl rfl rfl
   have hu : (A.deeper (PyProof.Rows.envOfC "_law_same" (defScope (top 27)) s.heap.objs.size f cdv)).units + 65 < cLine := by have := hr.un; omega
   have S := sc__law_same
   exact ss_cons (sx_if (st_val (se_isi (mv 1) T.b_isinstance T.b_tuple (by decide +kernel)))
      (ss_cons (sx_if ((sw_or (st_not (st_val (se_isi (mv 0) T.b_isinstance T.b_tuple (by decide +kernel)))) (sw_or1 (st_cmp (op_neA hu) s2_ne (se_callB call_len sn_len (by rfl) T.b_len (by decide +kernel) (sa_cons (mv 0) (sa_nil))) (se_callB call_len sn_len (by rfl) T.b_len (by decide +kernel) (sa_cons (mv 1) (sa_nil))) (nomark _)))).pt)
      (ss_one (sx_ret (se_bl)))
      (ss_nil))
      (ss_one (sx_ret (se_callB (cr_all rfl) sn_all (by rfl) T.b_all (by decide +kernel) (sa_cons (se_lc (own := [("_law_a", 2), ("_law_b", 3)]) S.nd (si_zipT T.b_zip (mv 0) (mv 1)) (blkOk_by (N := ["_law_found", "_law_due", "_law_a", "_law_b"]) (sc := defScope (top 27)) (by decide +kernel)) (tg_pairZ (j := 2) (k := 3) (by decide)) (fun _ _ _ _ _ => pg_tup rfl (pgs_cons (pg_name (i := 2) S.nd rfl (by first | exact Or.inl rfl | exact Or.inr rfl)) (pgs_cons (pg_name (i := 3) S.nd rfl (by first | exact Or.inl rfl | exact Or.inr rfl)) pgs_nil))) (fun _ _ _ _ _ => st_nil) (fun _ _ _ _ _ => se_callC c_self (hr.mono (by omega)) takes0 (sa_cons (mv 2) (sa_cons (mv 3) (sa_nil))))) (sa_nil))))))
      (ss_nil))
      (ss_cons (sx_if (st_val (se_isi (mv 1) T.b_isinstance T.b_str (by decide +kernel)))
      (ss_one (sx_ret (se_and (se_isi (mv 0) T.b_isinstance T.b_str (by decide +kernel)) (se_one (se_cmp (op_eqA hu) s2_eq (mv 0) (mv 1) (nomark _))))))
      (ss_nil))
      (ss_one (sx_ret (se_and (se_isi (mv 0) T.b_isinstance T.b_int (by decide +kernel)) (se_and (se_not (se_isi (mv 0) T.b_isinstance T.b_bool (by decide +kernel))) (se_one (se_cmp (op_eqA hu) s2_eq (mv 0) (mv 1) (nomark _))))))))
theorem sc__law_shown : FnScope ["_law_items_here", "_law_found", "_law_item", "_law_text"] ["_law_items_here"] (defScope (top 25)) := ⟨rfl, rfl, rfl, by decide +kernel, rfl, by decide +kernel, by decide +kernel⟩
theorem sim__law_shown (T : Txt K mg) (d : Df K mg "_law_shown" (top 25) ["_law_items_here"]) : ∀ n, Cal P w K mg base "_law_shown" (n + 1) (m_shown_9126a n)
 | 0 => cal_none d (fun _ _ => rfl)
 | n + 1 => by
  have c_self := sim__law_shown T d n
  have e : n + 1 + 1 = (n + 1) + 1 := by omega
  rw [e]
  exact cal_mk (k := n + 1) d sc__law_shown fun f cdv A outer s H E hr => by
   have tk : Takes (cxOf (L2.CX P w) P w K mg base ["_law_items_here", "_law_found", "_law_item", "_law_text"] "_law_shown" (defScope (top 25)) f cdv A outer s H E) (fun c d _ H' => E c d H') := takes_of rfl rfl rfl rfl
   have hu : (A.deeper (PyProof.Rows.envOfC "_law_shown" (defScope (top 25)) s.heap.objs.size f cdv)).units + 65 < cLine := by have := hr.un; omega
   have S := sc__law_shown
   exact ss_cons (sx_set (i := 1) (se_lst (sa_nil)) S.nd)
      (ss_cons (sx_for (passes_of rfl) (si_iter (mv 0)) (sg_name (i := 2) S.nd)
      (ss_cons (sx_set (i := 3) (mv 2) S.nd)
      (ss_cons (sx_if (st_cmp (op_neA hu) s2_ne (mv 2) (se_str) (nomark _))
      (ss_cons (sx_set (i := 3) (se_ix ix_seq s2_ix (mv 2) (se_int) (fun _ _ => rfl)) S.nd)
      (ss_one (sx_if (st_cmp op_gt s2_gt (se_callB call_len sn_len (by rfl) T.b_len (by decide +kernel) (sa_cons (se_ix ix_seq s2_ix (mv 2) (se_int) (fun _ _ => rfl)) (sa_nil))) (se_int) (nomark _))
      (ss_one (sx_set (i := 3) (se_bin op_addA s2_add (se_bin op_addA s2_add (se_bin op_addA s2_add (mv 3) (se_str)) (se_callC c_self (hr.mono (by omega)) tk (sa_cons (se_ix ix_seq s2_ix (mv 2) (se_int) (fun _ _ => rfl)) (sa_nil)))) (se_str)) S.nd))
      (ss_nil))))
      (ss_nil))
      (ss_one (sx_expr (se_bm PySem.F.plainAttrs_list PySem.F.slot_list_append PySem.F.type_list_append mt_append sty_list sm_append (mv 1) (sa_cons (mv 3) (sa_nil))))))))
      (ss_one (sx_ret (se_bm PySem.F.plainAttrs_str PySem.F.slot_str_join PySem.F.type_str_join mt_join sty_str sm_join (se_str) (sa_cons (mv 1) (sa_nil))))))
theorem sc__law_rule_shown : FnScope ["_law_rule"] ["_law_rule"] (defScope (top 26)) := ⟨rfl, rfl, rfl, by decide +kernel, rfl, by decide +kernel, by decide +kernel⟩
theorem sim__law_rule_shown (T : Txt K mg) (d : Df K mg "_law_rule_shown" (top 26) ["_law_rule"]) (c__law_shown : Cal P w K mg base "_law_shown" 101 (m_shown_9126a 100)) : Cal P w K mg base "_law_rule_shown" 102 (m_rule_shown_18506) := by
  exact cal_mk (k := 101) d sc__law_rule_shown fun f cdv A outer s H E hr => by
   have tk : Takes (cxOf (L2.CX P w) P w K mg base ["_law_rule"] "_law_rule_shown" (defScope (top 26)) f cdv A outer s H E) (fun c d _ H' => E c d H') := takes_of rfl rfl rfl rfl
   have hu : (A.deeper (PyProof.Rows.envOfC "_law_rule_shown" (defScope (top 26)) s.heap.objs.size f cdv)).units + 65 < cLine := by have := hr.un; omega
   have S := sc__law_rule_shown
   exact ss_cons (sx_if (st_cmp (op_eqA hu) s2_eq (se_callB call_len sn_len (by rfl) T.b_len (by decide +kernel) (sa_cons (se_ix ix_seq s2_ix (mv 0) (se_int) (fun _ _ => rfl)) (sa_nil))) (se_int) (nomark _))
      (ss_one (sx_ret (se_bin op_addA s2_add (se_ix ix_seq s2_ix (mv 0) (se_int) (fun _ _ => rfl)) (se_str))))
      (ss_nil))
      (ss_one (sx_ret (se_bin op_addA s2_add (se_bin op_addA s2_add (se_ix ix_seq s2_ix (mv 0) (se_int) (fun _ _ => rfl)) (se_str)) (se_callC c__law_shown (hr.mono (by omega)) tk (sa_cons (se_ix ix_seq s2_ix (mv 0) (se_int) (fun _ _ => rfl)) (sa_nil))))))
theorem sc_law : FnScope ["_law_script", "_law_pool", "_law_tape_here", "_law_rules", "_law_text", "_law_k", "_law_due", "_law_refused", "_law_found", "e", "_law_rule"] ["_law_script"] (defScope (top 33)) := ⟨rfl, rfl, rfl, by decide +kernel, rfl, by decide +kernel, by decide +kernel⟩
theorem sim_law {fa : Addr} {fd : FuncData} (T : Txt K mg) (F : Fun K "law" "law" (top 33) fa fd) (c__law_names : Cal P w K mg base "_law_names" 1 (m_names_c11ae)) (c__law_cell_at : Cal P w K mg base "_law_cell_at" 1 (m_cell_at_2c4cb)) (c__law_tape : Cal P w K mg base "_law_tape" 2 (m_tape_92891)) (c__law_turner : Cal P w K mg base "_law_turner" 102 (m_turner_aa784)) (c__law_rule_shown : Cal P w K mg base "_law_rule_shown" 102 (m_rule_shown_18506)) (c__law_next : Cal P w K mg base "_law_next" 1 (m_next_fea17)) (c__law_changed : Cal P w K mg base "_law_changed" 2 (m_changed_d6066)) (c__law_read : Cal P w K mg base "_law_read" 4 (m_read_e7a1e)) (c_read_turner : Cal P w K mg base "read_turner" 74 (m_read_turner_c16d3)) (c__law_same : Cal P w K mg base "_law_same" 101 (m_same_3d8da 100)) : FnOk P w K mg base (L2.CX P w) 103 fa fd ["_law_script"] (spM (gOf w K) m_law_b3eeb) := by
  exact fn_mk (k := 102) F sc_law fun cdv A outer s H E hr => by
   have tk : Takes (cxOf (L2.CX P w) P w K mg base ["_law_script", "_law_pool", "_law_tape_here", "_law_rules", "_law_text", "_law_k", "_law_due", "_law_refused", "_law_found", "e", "_law_rule"] "law" (defScope (top 33)) fa cdv A outer s H E) (fun c d _ H' => E c d H') := takes_of rfl rfl rfl rfl
   have hu : (A.deeper (PyProof.Rows.envOfC "law" (defScope (top 33)) s.heap.objs.size fa cdv)).units + 65 < cLine := by have := hr.un; omega
   have S := sc_law
   exact ss_cons (sx_set (i := 1) (se_callC c__law_names (hr.mono (by omega)) tk (sa_cons (se_callC c__law_cell_at (hr.mono (by omega)) tk (sa_cons (mv 0) (sa_cons (se_int) (sa_nil)))) (sa_nil))) S.nd)
      (ss_cons (sx_set (i := 2) (se_callC c__law_tape (hr.mono (by omega)) tk (sa_cons (se_callC c__law_cell_at (hr.mono (by omega)) tk (sa_cons (mv 0) (sa_cons (se_int) (sa_nil)))) (sa_cons (se_int) (sa_nil)))) S.nd)
      (ss_cons (sx_set (i := 3) (se_callC c__law_turner (hr.mono (by omega)) tk (sa_cons (mv 0) (sa_cons (se_int) (sa_cons (se_int) (sa_cons (mv 1) (sa_cons (se_int) (sa_nil))))))) S.nd)
      (ss_cons (sx_set (i := 4) (se_bm PySem.F.plainAttrs_str PySem.F.slot_str_join PySem.F.type_str_join mt_join sty_str sm_join (se_str) (sa_cons (se_lc (own := [("_law_rule", 10)]) S.nd (si_iter (mv 3)) (blkOk_by (N := ["_law_script", "_law_pool", "_law_tape_here", "_law_rules", "_law_text", "_law_k", "_law_due", "_law_refused", "_law_found", "e", "_law_rule"]) (sc := defScope (top 33)) (by decide +kernel)) (tg_name 10) (fun _ _ _ _ _ => pg_name (i := 10) S.nd rfl (by first | exact Or.inl rfl | exact Or.inr rfl)) (fun _ _ _ _ _ => st_nil) (fun _ _ _ _ _ => se_callC c__law_rule_shown (hr.mono (by omega)) takes0 (sa_cons (mv 10) (sa_nil)))) (sa_nil))) S.nd)
      (ss_cons (sx_for (passes_of rfl) (si_range1 T.b_range (se_callC c__law_next (hr.mono (by omega)) tk (sa_cons (mv 2) (sa_cons (se_int) (sa_nil))))) (sg_name (i := 5) S.nd)
      (ss_one (sx_set (i := 4) (se_callC c__law_changed (hr.mono (by omega)) tk (sa_cons (mv 4) (sa_cons (mv 2) (sa_cons (mv 1) (sa_nil))))) S.nd)))
      (ss_cons (sx_set (i := 6) (se_callC c__law_read (hr.mono (by omega)) tk (sa_cons (mv 4) (sa_nil))) S.nd)
      (ss_cons (sx_set (i := 7) (se_non) S.nd)
      (ss_cons (sx_set (i := 8) (se_non) S.nd)
      (ss_cons (sx_try (i := 9) (j := 7) T.ex_NoTurner tk (fun _ _ _ tk1 => ss_one (sx_set (i := 8) (se_callC c_read_turner (hr.mono (by omega)) tk1 (sa_cons (mv 4) (sa_nil))) S.nd)) S.nd)
      (ss_cons (sx_if (st_val (se_isi (mv 6) T.b_isinstance T.b_tuple (by decide +kernel)))
      (ss_one (sx_ret (se_and (se_cmp op_isN s2_isN (mv 7) (se_non) (nomark _)) (se_one (se_callC c__law_same (hr.mono (by omega)) tk (sa_cons (mv 8) (sa_cons (mv 6) (sa_nil))))))))
      (ss_nil))
      (ss_cons (sx_if ((sw_or (st_cmp op_isN s2_isN (mv 7) (se_non) (nomark _)) (sw_or (st_not (st_val (se_isO T.is_GraftError (mv 7) T.b_isinstance))) (sw_or1 (st_not (st_val (se_isV T.is_ValueError (mv 7) T.b_isinstance T.b_ValueError (by decide +kernel))))))).pt)
      (ss_one (sx_ret (se_bl)))
      (ss_nil))
      (ss_one (sx_ret (se_and (se_not (se_isOs T.is_NoBook_NoDocument_NoPattern (mv 7) T.b_isinstance (nm_cons (nm_cons (nm_cons (NmE.nil)))))) (se_one (se_callC c__law_same (hr.mono (by omega)) tk (sa_cons (se_fl T.fl_row (mv 7)) (sa_cons (mv 6) (sa_nil))))))))))))))))))
end
theorem all_mk {l : PySem.W.OpenLaw} {w : World} {K : PySem.W.Frag} {h : Heap} {mg : Str → Option Value} {fa : Addr} (X : K.In h) (G : h.Ns mainGlobals mg) (hfa : mg "law" = some (.ref fa))
    {f0 : Addr} {od0 an0 : Option Addr} {sl0 : Array (Option Value)} {oc0 kV0 dc0 pm0 cd0 ct0 : Value} {f1 : Addr} {od1 an1 : Option Addr} {sl1 : Array (Option Value)} {oc1 kV1 dc1 pm1 cd1 ct1 : Value} {f2 : Addr} {od2 an2 : Option Addr} {sl2 : Array (Option Value)} {oc2 kV2 dc2 pm2 cd2 ct2 : Value} {f3 : Addr} {od3 an3 : Option Addr} {sl3 : Array (Option Value)} {oc3 kV3 dc3 pm3 cd3 ct3 : Value} {f4 : Addr} {od4 an4 : Option Addr} {sl4 : Array (Option Value)} {oc4 kV4 dc4 pm4 cd4 ct4 : Value} {f5 : Addr} {od5 an5 : Option Addr} {sl5 : Array (Option Value)} {oc5 kV5 dc5 pm5 cd5 ct5 : Value} {f6 : Addr} {od6 an6 : Option Addr} {sl6 : Array (Option Value)} {oc6 kV6 dc6 pm6 cd6 ct6 : Value} {f7 : Addr} {od7 an7 : Option Addr} {sl7 : Array (Option Value)} {oc7 kV7 dc7 pm7 cd7 ct7 : Value} {f8 : Addr} {od8 an8 : Option Addr} {sl8 : Array (Option Value)} {oc8 kV8 dc8 pm8 cd8 ct8 : Value} {f9 : Addr} {od9 an9 : Option Addr} {sl9 : Array (Option Value)} {oc9 kV9 dc9 pm9 cd9 ct9 : Value} {f10 : Addr} {od10 an10 : Option Addr} {sl10 : Array (Option Value)} {oc10 kV10 dc10 pm10 cd10 ct10 : Value} {f11 : Addr} {od11 an11 : Option Addr} {sl11 : Array (Option Value)} {oc11 kV11 dc11 pm11 cd11 ct11 : Value} {f12 : Addr} {od12 an12 : Option Addr} {sl12 : Array (Option Value)} {oc12 kV12 dc12 pm12 cd12 ct12 : Value} {f13 : Addr} {od13 an13 : Option Addr} {sl13 : Array (Option Value)} {oc13 kV13 dc13 pm13 cd13 ct13 : Value} {f14 : Addr} {od14 an14 : Option Addr} {sl14 : Array (Option Value)} {oc14 kV14 dc14 pm14 cd14 ct14 : Value} {f15 : Addr} {od15 an15 : Option Addr} {sl15 : Array (Option Value)} {oc15 kV15 dc15 pm15 cd15 ct15 : Value} {f16 : Addr} {od16 an16 : Option Addr} {sl16 : Array (Option Value)} {oc16 kV16 dc16 pm16 cd16 ct16 : Value} {f17 : Addr} {od17 an17 : Option Addr} {sl17 : Array (Option Value)} {oc17 kV17 dc17 pm17 cd17 ct17 : Value} {f18 : Addr} {od18 an18 : Option Addr} {sl18 : Array (Option Value)} {oc18 kV18 dc18 pm18 cd18 ct18 : Value} {f19 : Addr} {od19 an19 : Option Addr} {sl19 : Array (Option Value)} {oc19 kV19 dc19 pm19 cd19 ct19 : Value} {f20 : Addr} {od20 an20 : Option Addr} {sl20 : Array (Option Value)} {oc20 kV20 dc20 pm20 cd20 ct20 : Value} {f21 : Addr} {od21 an21 : Option Addr} {sl21 : Array (Option Value)} {oc21 kV21 dc21 pm21 cd21 ct21 : Value} {f22 : Addr} {od22 an22 : Option Addr} {sl22 : Array (Option Value)} {oc22 kV22 dc22 pm22 cd22 ct22 : Value} {f23 : Addr} {od23 an23 : Option Addr} {sl23 : Array (Option Value)} {oc23 kV23 dc23 pm23 cd23 ct23 : Value} {C12 : Addr} {C13 : Addr} {C15 : Addr} {C16 : Addr} {tz_HOLE : Tok} {tz_LETTERS_docs : Tok} {tz_LETTERS_turntexts : Tok} {tz_TURNS : Tok} {C_NoTurner fI_NoTurner : Addr} {oc_NoTurner kV_NoTurner dc_NoTurner pm_NoTurner cd_NoTurner ct_NoTurner : Value} {od_NoTurner an_NoTurner : Option Addr} {sl_NoTurner : Array (Option Value)}
    (a0 : PySem.W.nsIn K mainGlobals "_law_names" = some (some (.ref f0)))
    (l0 : K.lookup f0 = some ⟨oc0, od0, .func (PySem.W.fnOf "_law_names" "_law_names" (defArgs (top 22)) (defBody (top 22)) (defScope (top 22)) .none kV0 dc0 pm0 an0 cd0 ct0), sl0⟩) (e0 : PySem.W.codeIn K cd0 "_law_names" = true) (k0 : PySem.W.keepIn K (.ref f0) = true)
    (a1 : PySem.W.nsIn K mainGlobals "_law_mix" = some (some (.ref f1)))
    (l1 : K.lookup f1 = some ⟨oc1, od1, .func (PySem.W.fnOf "_law_mix" "_law_mix" (defArgs (top 19)) (defBody (top 19)) (defScope (top 19)) .none kV1 dc1 pm1 an1 cd1 ct1), sl1⟩) (e1 : PySem.W.codeIn K cd1 "_law_mix" = true) (k1 : PySem.W.keepIn K (.ref f1) = true)
    (a2 : PySem.W.nsIn K mainGlobals "_law_tape" = some (some (.ref f2)))
    (l2 : K.lookup f2 = some ⟨oc2, od2, .func (PySem.W.fnOf "_law_tape" "_law_tape" (defArgs (top 20)) (defBody (top 20)) (defScope (top 20)) .none kV2 dc2 pm2 an2 cd2 ct2), sl2⟩) (e2 : PySem.W.codeIn K cd2 "_law_tape" = true) (k2 : PySem.W.keepIn K (.ref f2) = true)
    (a3 : PySem.W.nsIn K mainGlobals "_law_cell_at" = some (some (.ref f3)))
    (l3 : K.lookup f3 = some ⟨oc3, od3, .func (PySem.W.fnOf "_law_cell_at" "_law_cell_at" (defArgs (top 18)) (defBody (top 18)) (defScope (top 18)) .none kV3 dc3 pm3 an3 cd3 ct3), sl3⟩) (e3 : PySem.W.codeIn K cd3 "_law_cell_at" = true) (k3 : PySem.W.keepIn K (.ref f3) = true)
    (a4 : PySem.W.nsIn K mainGlobals "_law_next" = some (some (.ref f4)))
    (l4 : K.lookup f4 = some ⟨oc4, od4, .func (PySem.W.fnOf "_law_next" "_law_next" (defArgs (top 21)) (defBody (top 21)) (defScope (top 21)) .none kV4 dc4 pm4 an4 cd4 ct4), sl4⟩) (e4 : PySem.W.codeIn K cd4 "_law_next" = true) (k4 : PySem.W.keepIn K (.ref f4) = true)
    (a5 : PySem.W.nsIn K mainGlobals "_law_items" = some (some (.ref f5)))
    (l5 : K.lookup f5 = some ⟨oc5, od5, .func (PySem.W.fnOf "_law_items" "_law_items" (defArgs (top 23)) (defBody (top 23)) (defScope (top 23)) .none kV5 dc5 pm5 an5 cd5 ct5), sl5⟩) (e5 : PySem.W.codeIn K cd5 "_law_items" = true) (k5 : PySem.W.keepIn K (.ref f5) = true)
    (a6 : PySem.W.nsIn K mainGlobals "_law_turner" = some (some (.ref f6)))
    (l6 : K.lookup f6 = some ⟨oc6, od6, .func (PySem.W.fnOf "_law_turner" "_law_turner" (defArgs (top 24)) (defBody (top 24)) (defScope (top 24)) .none kV6 dc6 pm6 an6 cd6 ct6), sl6⟩) (e6 : PySem.W.codeIn K cd6 "_law_turner" = true) (k6 : PySem.W.keepIn K (.ref f6) = true)
    (a7 : PySem.W.nsIn K mainGlobals "_law_name_end" = some (some (.ref f7)))
    (l7 : K.lookup f7 = some ⟨oc7, od7, .func (PySem.W.fnOf "_law_name_end" "_law_name_end" (defArgs (top 28)) (defBody (top 28)) (defScope (top 28)) .none kV7 dc7 pm7 an7 cd7 ct7), sl7⟩) (e7 : PySem.W.codeIn K cd7 "_law_name_end" = true) (k7 : PySem.W.keepIn K (.ref f7) = true)
    (a8 : PySem.W.nsIn K mainGlobals "_law_items_of" = some (some (.ref f8)))
    (l8 : K.lookup f8 = some ⟨oc8, od8, .func (PySem.W.fnOf "_law_items_of" "_law_items_of" (defArgs (top 29)) (defBody (top 29)) (defScope (top 29)) .none kV8 dc8 pm8 an8 cd8 ct8), sl8⟩) (e8 : PySem.W.codeIn K cd8 "_law_items_of" = true) (k8 : PySem.W.keepIn K (.ref f8) = true)
    (a9 : PySem.W.nsIn K mainGlobals "_law_rule_of" = some (some (.ref f9)))
    (l9 : K.lookup f9 = some ⟨oc9, od9, .func (PySem.W.fnOf "_law_rule_of" "_law_rule_of" (defArgs (top 30)) (defBody (top 30)) (defScope (top 30)) .none kV9 dc9 pm9 an9 cd9 ct9), sl9⟩) (e9 : PySem.W.codeIn K cd9 "_law_rule_of" = true) (k9 : PySem.W.keepIn K (.ref f9) = true)
    (a10 : PySem.W.nsIn K mainGlobals "_law_read" = some (some (.ref f10)))
    (l10 : K.lookup f10 = some ⟨oc10, od10, .func (PySem.W.fnOf "_law_read" "_law_read" (defArgs (top 31)) (defBody (top 31)) (defScope (top 31)) .none kV10 dc10 pm10 an10 cd10 ct10), sl10⟩) (e10 : PySem.W.codeIn K cd10 "_law_read" = true) (k10 : PySem.W.keepIn K (.ref f10) = true)
    (a11 : PySem.W.nsIn K mainGlobals "_law_changed" = some (some (.ref f11)))
    (l11 : K.lookup f11 = some ⟨oc11, od11, .func (PySem.W.fnOf "_law_changed" "_law_changed" (defArgs (top 32)) (defBody (top 32)) (defScope (top 32)) .none kV11 dc11 pm11 an11 cd11 ct11), sl11⟩) (e11 : PySem.W.codeIn K cd11 "_law_changed" = true) (k11 : PySem.W.keepIn K (.ref f11) = true)
    (ca12 : PySem.W.nsIn K mainGlobals "ItemReader" = some (some (.ref C12)))
    (cm12 : PySem.W.makesIn K C12 = true) (ck12 : PySem.W.keepIn K (.ref C12) = true)
    (a12 : PySem.W.findIn K (.ref C12) "__init__" = some (some (.ref f12))) (cn12 : PySem.W.isFn K (.ref f12) = true)
    (l12 : K.lookup f12 = some ⟨oc12, od12, .func (PySem.W.fnOf "__init__" "ItemReader.__init__" (defArgs (inner (top 13) 0)) (defBody (inner (top 13) 0)) (defScope (inner (top 13) 0)) .none kV12 dc12 pm12 an12 cd12 ct12), sl12⟩) (e12 : PySem.W.codeIn K cd12 "ItemReader.__init__" = true) (k12 : PySem.W.keepIn K (.ref f12) = true)
    (ca13 : PySem.W.nsIn K mainGlobals "ItemReader" = some (some (.ref C13)))
    (zf_cb13 : clsB K C13 = true)
    (a13 : PySem.W.findIn K (.ref C13) "meets" = some (some (.ref f13))) (cn13 : PySem.W.isFn K (.ref f13) = true)
    (l13 : K.lookup f13 = some ⟨oc13, od13, .func (PySem.W.fnOf "meets" "ItemReader.meets" (defArgs (inner (top 13) 1)) (defBody (inner (top 13) 1)) (defScope (inner (top 13) 1)) .none kV13 dc13 pm13 an13 cd13 ct13), sl13⟩) (e13 : PySem.W.codeIn K cd13 "ItemReader.meets" = true) (k13 : PySem.W.keepIn K (.ref f13) = true)
    (a14 : PySem.W.nsIn K mainGlobals "is_name" = some (some (.ref f14)))
    (l14 : K.lookup f14 = some ⟨oc14, od14, .func (PySem.W.fnOf "is_name" "is_name" (defArgs (top 9)) (defBody (top 9)) (defScope (top 9)) .none kV14 dc14 pm14 an14 cd14 ct14), sl14⟩) (e14 : PySem.W.codeIn K cd14 "is_name" = true) (k14 : PySem.W.keepIn K (.ref f14) = true)
    (ca15 : PySem.W.nsIn K mainGlobals "ItemReader" = some (some (.ref C15)))
    (zf_cb15 : clsB K C15 = true)
    (a15 : PySem.W.findIn K (.ref C15) "item" = some (some (.ref f15))) (cn15 : PySem.W.isFn K (.ref f15) = true)
    (l15 : K.lookup f15 = some ⟨oc15, od15, .func (PySem.W.fnOf "item" "ItemReader.item" (defArgs (inner (top 13) 3)) (defBody (inner (top 13) 3)) (defScope (inner (top 13) 3)) .none kV15 dc15 pm15 an15 cd15 ct15), sl15⟩) (e15 : PySem.W.codeIn K cd15 "ItemReader.item" = true) (k15 : PySem.W.keepIn K (.ref f15) = true)
    (ca16 : PySem.W.nsIn K mainGlobals "ItemReader" = some (some (.ref C16)))
    (zf_cb16 : clsB K C16 = true)
    (a16 : PySem.W.findIn K (.ref C16) "item_row" = some (some (.ref f16))) (cn16 : PySem.W.isFn K (.ref f16) = true)
    (l16 : K.lookup f16 = some ⟨oc16, od16, .func (PySem.W.fnOf "item_row" "ItemReader.item_row" (defArgs (inner (top 13) 2)) (defBody (inner (top 13) 2)) (defScope (inner (top 13) 2)) .none kV16 dc16 pm16 an16 cd16 ct16), sl16⟩) (e16 : PySem.W.codeIn K cd16 "ItemReader.item_row" = true) (k16 : PySem.W.keepIn K (.ref f16) = true)
    (a17 : PySem.W.nsIn K mainGlobals "read_items" = some (some (.ref f17)))
    (l17 : K.lookup f17 = some ⟨oc17, od17, .func (PySem.W.fnOf "read_items" "read_items" (defArgs (top 14)) (defBody (top 14)) (defScope (top 14)) .none kV17 dc17 pm17 an17 cd17 ct17), sl17⟩) (e17 : PySem.W.codeIn K cd17 "read_items" = true) (k17 : PySem.W.keepIn K (.ref f17) = true)
    (a18 : PySem.W.nsIn K mainGlobals "read_turn" = some (some (.ref f18)))
    (l18 : K.lookup f18 = some ⟨oc18, od18, .func (PySem.W.fnOf "read_turn" "read_turn" (defArgs (top 15)) (defBody (top 15)) (defScope (top 15)) .none kV18 dc18 pm18 an18 cd18 ct18), sl18⟩) (e18 : PySem.W.codeIn K cd18 "read_turn" = true) (k18 : PySem.W.keepIn K (.ref f18) = true)
    (a19 : PySem.W.nsIn K mainGlobals "read_turner" = some (some (.ref f19)))
    (l19 : K.lookup f19 = some ⟨oc19, od19, .func (PySem.W.fnOf "read_turner" "read_turner" (defArgs (top 16)) (defBody (top 16)) (defScope (top 16)) .none kV19 dc19 pm19 an19 cd19 ct19), sl19⟩) (e19 : PySem.W.codeIn K cd19 "read_turner" = true) (k19 : PySem.W.keepIn K (.ref f19) = true)
    (a20 : PySem.W.nsIn K mainGlobals "_law_same" = some (some (.ref f20)))
    (l20 : K.lookup f20 = some ⟨oc20, od20, .func (PySem.W.fnOf "_law_same" "_law_same" (defArgs (top 27)) (defBody (top 27)) (defScope (top 27)) .none kV20 dc20 pm20 an20 cd20 ct20), sl20⟩) (e20 : PySem.W.codeIn K cd20 "_law_same" = true) (k20 : PySem.W.keepIn K (.ref f20) = true)
    (a21 : PySem.W.nsIn K mainGlobals "_law_shown" = some (some (.ref f21)))
    (l21 : K.lookup f21 = some ⟨oc21, od21, .func (PySem.W.fnOf "_law_shown" "_law_shown" (defArgs (top 25)) (defBody (top 25)) (defScope (top 25)) .none kV21 dc21 pm21 an21 cd21 ct21), sl21⟩) (e21 : PySem.W.codeIn K cd21 "_law_shown" = true) (k21 : PySem.W.keepIn K (.ref f21) = true)
    (a22 : PySem.W.nsIn K mainGlobals "_law_rule_shown" = some (some (.ref f22)))
    (l22 : K.lookup f22 = some ⟨oc22, od22, .func (PySem.W.fnOf "_law_rule_shown" "_law_rule_shown" (defArgs (top 26)) (defBody (top 26)) (defScope (top 26)) .none kV22 dc22 pm22 an22 cd22 ct22), sl22⟩) (e22 : PySem.W.codeIn K cd22 "_law_rule_shown" = true) (k22 : PySem.W.keepIn K (.ref f22) = true)
    (a23 : PySem.W.nsIn K mainGlobals "law" = some (some (.ref f23)))
    (l23 : K.lookup f23 = some ⟨oc23, od23, .func (PySem.W.fnOf "law" "law" (defArgs (top 33)) (defBody (top 33)) (defScope (top 33)) .none kV23 dc23 pm23 an23 cd23 ct23), sl23⟩) (e23 : PySem.W.codeIn K cd23 "law" = true) (k23 : PySem.W.keepIn K (.ref f23) = true)
    (zb_ValueError : PySem.W.nsIn K mainGlobals "ValueError" = some none)
    (zb_all : PySem.W.nsIn K mainGlobals "all" = some none)
    (zb_bool : PySem.W.nsIn K mainGlobals "bool" = some none)
    (zb_int : PySem.W.nsIn K mainGlobals "int" = some none)
    (zb_isinstance : PySem.W.nsIn K mainGlobals "isinstance" = some none)
    (zb_len : PySem.W.nsIn K mainGlobals "len" = some none)
    (zb_range : PySem.W.nsIn K mainGlobals "range" = some none)
    (zb_str : PySem.W.nsIn K mainGlobals "str" = some none)
    (zb_tuple : PySem.W.nsIn K mainGlobals "tuple" = some none)
    (zb_zip : PySem.W.nsIn K mainGlobals "zip" = some none)
    (zg_HOLE : PySem.W.nsIn K mainGlobals "HOLE" = some (some (.str (Str.ofString "*") tz_HOLE)))
    (zg_LETTERS_docs : PySem.W.nsIn K mainGlobals "LETTERS_docs" = some (some (.str (Str.ofString "abcdefghijklmnopqrstuvwxyz") tz_LETTERS_docs)))
    (zg_LETTERS_turntexts : PySem.W.nsIn K mainGlobals "LETTERS_turntexts" = some (some (.str (Str.ofString "abcdefghijklmnopqrstuvwxyz") tz_LETTERS_turntexts)))
    (zg_TURNS : PySem.W.nsIn K mainGlobals "TURNS" = some (some (.int (12) tz_TURNS)))
    (zf_ct_at : ctB K "at" [(Str.ofString "ItemReader")] = true)
    (zf_ct_text : ctB K "text" [(Str.ofString "ItemReader")] = true)
    (zf_ex_NoTurner : exTB K "NoTurner" [((Str.ofString "NoTurner"), true)] = true)
    (zf_fl_row : flTB K "row" [(Str.ofString "NoTurner")] = true)
    (zf_is_GraftError : isTB K "GraftError" [((Str.ofString "NoTurner"), true)] = true)
    (zf_is_NoBook_NoDocument_NoPattern : isTsB K [(Str.ofString "NoBook"), (Str.ofString "NoDocument"), (Str.ofString "NoPattern")] [((Str.ofString "NoTurner"), false)] = true)
    (zf_is_ValueError : isBB K "ValueError" [((Str.ofString "NoTurner"), true)] = true)
    (xa_NoTurner : PySem.W.nsIn K mainGlobals "NoTurner" = some (some (.ref C_NoTurner))) (xc_NoTurner : oexB K C_NoTurner = true) (xi_NoTurner : PySem.W.findIn K (.ref C_NoTurner) "__init__" = some (some (.ref fI_NoTurner))) (xt_NoTurner : PySem.W.typeIn K (.ref fI_NoTurner) = some (.type "function")) (xn_NoTurner : PySem.W.findIn K (.ref C_NoTurner) "row" = some none)
    (xl_NoTurner : K.lookup fI_NoTurner = some ⟨oc_NoTurner, od_NoTurner, .func (PySem.W.fnOf "__init__" "NoTurner.__init__" (defArgs (inner (top 6) 0)) (defBody (inner (top 6) 0)) (defScope (inner (top 6) 0)) .none kV_NoTurner dc_NoTurner pm_NoTurner an_NoTurner cd_NoTurner ct_NoTurner), sl_NoTurner⟩) (xe_NoTurner : PySem.W.codeIn K cd_NoTurner "NoTurner.__init__" = true) (xk_NoTurner : PySem.W.keepIn K (.ref fI_NoTurner) = true) :
    ∃ fd : FuncData, (∀ (s : Shared) (v : Value), BindsTo s fd ⟨[v], []⟩ [("_law_script", v)]) ∧ ∀ base : Heap, K.In base → base.Ns mainGlobals mg → FnOk l.prog w K mg base (L2.CX l.prog w) 103 fa fd ["_law_script"] (spM (gOf w K) m_law_b3eeb) := by
  have T : Txt K mg := ⟨PySem.W.mg_none_of X G zb_ValueError, PySem.W.mg_none_of X G zb_all, PySem.W.mg_none_of X G zb_bool, PySem.W.mg_none_of X G zb_int, PySem.W.mg_none_of X G zb_isinstance, PySem.W.mg_none_of X G zb_len, PySem.W.mg_none_of X G zb_range, PySem.W.mg_none_of X G zb_str, PySem.W.mg_none_of X G zb_tuple, PySem.W.mg_none_of X G zb_zip, ⟨_, PySem.W.mg_of X G zg_HOLE⟩, ⟨_, PySem.W.mg_of X G zg_LETTERS_docs⟩, ⟨_, PySem.W.mg_of X G zg_LETTERS_turntexts⟩, ⟨_, PySem.W.mg_of X G zg_TURNS⟩, ctB_ok zf_ct_at, ctB_ok zf_ct_text, exTB_ok X G zf_ex_NoTurner, flTB_ok zf_fl_row, isTB_ok X G zf_is_GraftError, isTsB_ok X G zf_is_NoBook_NoDocument_NoPattern, isBB_ok zf_is_ValueError⟩
  have xi_NoTurner : ∀ base : Heap, XI l.prog w K mg base "NoTurner" "row" := fun base => xi_mk (f := "row") X G xa_NoTurner (oexB_ok xc_NoTurner) xi_NoTurner xt_NoTurner xn_NoTurner xl_NoTurner xe_NoTurner xk_NoTurner sc_init_NoTurner (fun _ F cdv A outer s H E => pss_one (ps_ost (pv 0) (pv 1))) (fun _ _ _ _ _ _ us hl => match us, hl with | [_, _], _ => rfl)
  have d0 : Df K mg "_law_names" (top 22) ["_law_cell"] := df_mk X G a0 l0 e0 k0 fun _ _ _ _ _ _ us hl => match us, hl with | [_], _ => rfl
  have c0 : ∀ base : Heap, Cal l.prog w K mg base "_law_names" 1 (m_names_c11ae) := fun base => sim__law_names T d0
  have d1 : Df K mg "_law_mix" (top 19) ["_law_number", "_law_k"] := df_mk X G a1 l1 e1 k1 fun _ _ _ _ _ _ us hl => match us, hl with | [_, _], _ => rfl
  have c1 : ∀ base : Heap, Cal l.prog w K mg base "_law_mix" 1 (m_mix_1b9e1) := fun base => sim__law_mix T d1
  have d2 : Df K mg "_law_tape" (top 20) ["_law_cell", "_law_many"] := df_mk X G a2 l2 e2 k2 fun _ _ _ _ _ _ us hl => match us, hl with | [_, _], _ => rfl
  have c2 : ∀ base : Heap, Cal l.prog w K mg base "_law_tape" 2 (m_tape_92891) := fun base => sim__law_tape T d2 (c1 base)
  have d3 : Df K mg "_law_cell_at" (top 18) ["_law_script", "_law_k"] := df_mk X G a3 l3 e3 k3 fun _ _ _ _ _ _ us hl => match us, hl with | [_, _], _ => rfl
  have c3 : ∀ base : Heap, Cal l.prog w K mg base "_law_cell_at" 1 (m_cell_at_2c4cb) := fun base => sim__law_cell_at T d3
  have d4 : Df K mg "_law_next" (top 21) ["_law_tape_here", "_law_many"] := df_mk X G a4 l4 e4 k4 fun _ _ _ _ _ _ us hl => match us, hl with | [_, _], _ => rfl
  have c4 : ∀ base : Heap, Cal l.prog w K mg base "_law_next" 1 (m_next_fea17) := fun base => sim__law_next T d4
  have d5 : Df K mg "_law_items" (top 23) ["_law_tape_here", "_law_depth", "_law_pool"] := df_mk X G a5 l5 e5 k5 fun _ _ _ _ _ _ us hl => match us, hl with | [_, _, _], _ => rfl
  have c5 : ∀ base : Heap, Cal l.prog w K mg base "_law_items" 101 (m_items_b2406 100) := fun base => sim__law_items T d5 (c4 base) 100
  have d6 : Df K mg "_law_turner" (top 24) ["_law_script", "_law_start", "_law_most", "_law_pool", "_law_deep"] := df_mk X G a6 l6 e6 k6 fun _ _ _ _ _ _ us hl => match us, hl with | [_, _, _, _, _], _ => rfl
  have c6 : ∀ base : Heap, Cal l.prog w K mg base "_law_turner" 102 (m_turner_aa784) := fun base => sim__law_turner T d6 (c3 base) (c2 base) (c4 base) (c5 base)
  have d7 : Df K mg "_law_name_end" (top 28) ["_law_text", "_law_k"] := df_mk X G a7 l7 e7 k7 fun _ _ _ _ _ _ us hl => match us, hl with | [_, _], _ => rfl
  have c7 : ∀ base : Heap, Cal l.prog w K mg base "_law_name_end" 1 (m_name_end_abafc) := fun base => sim__law_name_end T d7
  have d8 : Df K mg "_law_items_of" (top 29) ["_law_text"] := df_mk X G a8 l8 e8 k8 fun _ _ _ _ _ _ us hl => match us, hl with | [_], _ => rfl
  have c8 : ∀ base : Heap, Cal l.prog w K mg base "_law_items_of" 2 (m_items_of_d6f25) := fun base => sim__law_items_of T d8 (c7 base)
  have d9 : Df K mg "_law_rule_of" (top 30) ["_law_text"] := df_mk X G a9 l9 e9 k9 fun _ _ _ _ _ _ us hl => match us, hl with | [_], _ => rfl
  have c9 : ∀ base : Heap, Cal l.prog w K mg base "_law_rule_of" 3 (m_rule_of_19f7e) := fun base => sim__law_rule_of T d9 (c7 base) (c8 base)
  have d10 : Df K mg "_law_read" (top 31) ["_law_text"] := df_mk X G a10 l10 e10 k10 fun _ _ _ _ _ _ us hl => match us, hl with | [_], _ => rfl
  have c10 : ∀ base : Heap, Cal l.prog w K mg base "_law_read" 4 (m_read_e7a1e) := fun base => sim__law_read T d10 (c9 base)
  have d11 : Df K mg "_law_changed" (top 32) ["_law_text", "_law_tape_here", "_law_pool"] := df_mk X G a11 l11 e11 k11 fun _ _ _ _ _ _ us hl => match us, hl with | [_, _, _], _ => rfl
  have c11 : ∀ base : Heap, Cal l.prog w K mg base "_law_changed" 2 (m_changed_d6066) := fun base => sim__law_changed T d11 (c4 base)
  have d12 : Di K mg "ItemReader" "ItemReader.__init__" (inner (top 13) 0) ["self", "text"] := di_mk X G ca12 cm12 a12 cn12 ck12 l12 e12 k12 fun _ _ _ _ _ _ us hl => match us, hl with | [_, _], _ => rfl
  have c12 : ∀ base : Heap, MkOf l.prog w K mg base "ItemReader" 1 (m_ItemReader___init___aeb78) := fun base => sim_ItemReader___init__ T d12
  have d13 : Dm K "ItemReader" "meets" "ItemReader.meets" (inner (top 13) 1) ["self", "sign"] := dm_mk ca13 zf_cb13 a13 cn13 l13 e13 k13 fun _ _ _ _ _ _ us hl => match us, hl with | [_, _], _ => rfl
  have c13 : ∀ base : Heap, MtOf l.prog w K mg base "ItemReader" "meets" 1 (m_ItemReader_meets_df593) := fun base => sim_ItemReader_meets T d13
  have d14 : Df K mg "is_name" (top 9) ["thing"] := df_mk X G a14 l14 e14 k14 fun _ _ _ _ _ _ us hl => match us, hl with | [_], _ => rfl
  have c14 : ∀ base : Heap, Cal l.prog w K mg base "is_name" 1 (m_is_name_e273d) := fun base => sim_is_name T d14
  have d15 : Dm K "ItemReader" "item" "ItemReader.item" (inner (top 13) 3) ["self"] := dm_mk ca15 zf_cb15 a15 cn15 l15 e15 k15 fun _ _ _ _ _ _ us hl => match us, hl with | [_], _ => rfl
  have d16 : Dm K "ItemReader" "item_row" "ItemReader.item_row" (inner (top 13) 2) ["self"] := dm_mk ca16 zf_cb16 a16 cn16 l16 e16 k16 fun _ _ _ _ _ _ us hl => match us, hl with | [_], _ => rfl
  have gdone_ItemReader_item := fun base : Heap => simg_ItemReader_item (P := l.prog) (w := w) (base := base) T d15 d16 (c13 base) (c14 base) 70
  have c15 : ∀ base : Heap, MtOf l.prog w K mg base "ItemReader" "item" 71 (m_scc_ItemReader_item_79300 70 0) := fun base => (gdone_ItemReader_item base).1
  have c16 : ∀ base : Heap, MtOf l.prog w K mg base "ItemReader" "item_row" 71 (m_scc_ItemReader_item_79300 70 1) := fun base => (gdone_ItemReader_item base).2
  have d17 : Df K mg "read_items" (top 14) ["text"] := df_mk X G a17 l17 e17 k17 fun _ _ _ _ _ _ us hl => match us, hl with | [_], _ => rfl
  have c17 : ∀ base : Heap, Cal l.prog w K mg base "read_items" 72 (m_read_items_0cc23) := fun base => sim_read_items T d17 (c12 base) (c16 base)
  have d18 : Df K mg "read_turn" (top 15) ["text"] := df_mk X G a18 l18 e18 k18 fun _ _ _ _ _ _ us hl => match us, hl with | [_], _ => rfl
  have c18 : ∀ base : Heap, Cal l.prog w K mg base "read_turn" 73 (m_read_turn_2bcea) := fun base => sim_read_turn T d18 (c14 base) (c17 base)
  have d19 : Df K mg "read_turner" (top 16) ["text"] := df_mk X G a19 l19 e19 k19 fun _ _ _ _ _ _ us hl => match us, hl with | [_], _ => rfl
  have c19 : ∀ base : Heap, Cal l.prog w K mg base "read_turner" 74 (m_read_turner_c16d3) := fun base => sim_read_turner T d19 (c18 base) (xi_NoTurner base)
  have d20 : Df K mg "_law_same" (top 27) ["_law_found", "_law_due"] := df_mk X G a20 l20 e20 k20 fun _ _ _ _ _ _ us hl => match us, hl with | [_, _], _ => rfl
  have c20 : ∀ base : Heap, Cal l.prog w K mg base "_law_same" 101 (m_same_3d8da 100) := fun base => sim__law_same T d20 100
  have d21 : Df K mg "_law_shown" (top 25) ["_law_items_here"] := df_mk X G a21 l21 e21 k21 fun _ _ _ _ _ _ us hl => match us, hl with | [_], _ => rfl
  have c21 : ∀ base : Heap, Cal l.prog w K mg base "_law_shown" 101 (m_shown_9126a 100) := fun base => sim__law_shown T d21 100
  have d22 : Df K mg "_law_rule_shown" (top 26) ["_law_rule"] := df_mk X G a22 l22 e22 k22 fun _ _ _ _ _ _ us hl => match us, hl with | [_], _ => rfl
  have c22 : ∀ base : Heap, Cal l.prog w K mg base "_law_rule_shown" 102 (m_rule_shown_18506) := fun base => sim__law_rule_shown T d22 (c21 base)
  have ea := hfa.symm.trans (PySem.W.mg_of X G a23)
  cases ea
  have F := fun_mk (st := top 33) l23 e23 k23
  exact ⟨PySem.W.fnOf "law" "law" (defArgs (top 33)) (defBody (top 33)) (defScope (top 33)) .none kV23 dc23 pm23 an23 cd23 ct23, fun s v => .of_eq rfl, fun base _ _ => sim_law T F (c0 base) (c3 base) (c2 base) (c6 base) (c22 base) (c4 base) (c11 base) (c10 base) (c19 base) (c20 base)⟩
end Sk73

open PySem PySem.W PyProof.Rows
set_option maxRecDepth 100000 in
set_option maxHeartbeats 0 in
theorem PySem.Challenge.cw_graftform_k73_near_turners_holds : PySem.Challenge.rw_graftform_k73_near_turners.Holds := by
  w_on; o_law; k_head; (case hw => w_witness2)
  k_fill
  refine Mi.law_end (l := PySem.Challenge.rw_graftform_k73_near_turners) (k := 103) (x := "_law_script") (F := Mi.m_law_b3eeb) Mi.main_k73 rfl rfl ⟨rfl, by decide, by decide⟩ (fun w h Y => PySem.W.kIn_of Y) ?F
  case F =>
    intro w mg fa h KX G hmg
    refine' Sk73.all_mk KX G hmg ?a0 ?l0 ?e0 ?k0 ?a1 ?l1 ?e1 ?k1 ?a2 ?l2 ?e2 ?k2 ?a3 ?l3 ?e3 ?k3 ?a4 ?l4 ?e4 ?k4 ?a5 ?l5 ?e5 ?k5 ?a6 ?l6 ?e6 ?k6 ?a7 ?l7 ?e7 ?k7 ?a8 ?l8 ?e8 ?k8 ?a9 ?l9 ?e9 ?k9 ?a10 ?l10 ?e10 ?k10 ?a11 ?l11 ?e11 ?k11 ?ca12 ?cm12 ?ck12 ?a12 ?cn12 ?l12 ?e12 ?k12 ?ca13 ?zf_cb13 ?a13 ?cn13 ?l13 ?e13 ?k13 ?a14 ?l14 ?e14 ?k14 ?ca15 ?zf_cb15 ?a15 ?cn15 ?l15 ?e15 ?k15 ?ca16 ?zf_cb16 ?a16 ?cn16 ?l16 ?e16 ?k16 ?a17 ?l17 ?e17 ?k17 ?a18 ?l18 ?e18 ?k18 ?a19 ?l19 ?e19 ?k19 ?a20 ?l20 ?e20 ?k20 ?a21 ?l21 ?e21 ?k21 ?a22 ?l22 ?e22 ?k22 ?a23 ?l23 ?e23 ?k23 ?zb_ValueError ?zb_all ?zb_bool ?zb_int ?zb_isinstance ?zb_len ?zb_range ?zb_str ?zb_tuple ?zb_zip ?zg_HOLE ?zg_LETTERS_docs ?zg_LETTERS_turntexts ?zg_TURNS ?zf_ct_at ?zf_ct_text ?zf_ex_NoTurner ?zf_fl_row ?zf_is_GraftError ?zf_is_NoBook_NoDocument_NoPattern ?zf_is_ValueError ?xa_NoTurner ?xc_NoTurner ?xi_NoTurner ?xt_NoTurner ?xn_NoTurner ?xl_NoTurner ?xe_NoTurner ?xk_NoTurner
    (case a0 => k_is)
    (case l0 => k_is)
    (case e0 => k_is)
    (case k0 => k_is)
    (case a1 => k_is)
    (case l1 => k_is)
    (case e1 => k_is)
    (case k1 => k_is)
    (case a2 => k_is)
    (case l2 => k_is)
    (case e2 => k_is)
    (case k2 => k_is)
    (case a3 => k_is)
    (case l3 => k_is)
    (case e3 => k_is)
    (case k3 => k_is)
    (case a4 => k_is)
    (case l4 => k_is)
    (case e4 => k_is)
    (case k4 => k_is)
    (case a5 => k_is)
    (case l5 => k_is)
    (case e5 => k_is)
    (case k5 => k_is)
    (case a6 => k_is)
    (case l6 => k_is)
    (case e6 => k_is)
    (case k6 => k_is)
    (case a7 => k_is)
    (case l7 => k_is)
    (case e7 => k_is)
    (case k7 => k_is)
    (case a8 => k_is)
    (case l8 => k_is)
    (case e8 => k_is)
    (case k8 => k_is)
    (case a9 => k_is)
    (case l9 => k_is)
    (case e9 => k_is)
    (case k9 => k_is)
    (case a10 => k_is)
    (case l10 => k_is)
    (case e10 => k_is)
    (case k10 => k_is)
    (case a11 => k_is)
    (case l11 => k_is)
    (case e11 => k_is)
    (case k11 => k_is)
    (case ca12 => k_is)
    (case cm12 => k_is)
    (case ck12 => k_is)
    (case a12 => k_is)
    (case cn12 => k_is)
    (case l12 => k_is)
    (case e12 => k_is)
    (case k12 => k_is)
    (case ca13 => k_is)
    (case zf_cb13 => kernel_rfl)
    (case a13 => k_is)
    (case cn13 => k_is)
    (case l13 => k_is)
    (case e13 => k_is)
    (case k13 => k_is)
    (case a14 => k_is)
    (case l14 => k_is)
    (case e14 => k_is)
    (case k14 => k_is)
    (case ca15 => k_is)
    (case zf_cb15 => kernel_rfl)
    (case a15 => k_is)
    (case cn15 => k_is)
    (case l15 => k_is)
    (case e15 => k_is)
    (case k15 => k_is)
    (case ca16 => k_is)
    (case zf_cb16 => kernel_rfl)
    (case a16 => k_is)
    (case cn16 => k_is)
    (case l16 => k_is)
    (case e16 => k_is)
    (case k16 => k_is)
    (case a17 => k_is)
    (case l17 => k_is)
    (case e17 => k_is)
    (case k17 => k_is)
    (case a18 => k_is)
    (case l18 => k_is)
    (case e18 => k_is)
    (case k18 => k_is)
    (case a19 => k_is)
    (case l19 => k_is)
    (case e19 => k_is)
    (case k19 => k_is)
    (case a20 => k_is)
    (case l20 => k_is)
    (case e20 => k_is)
    (case k20 => k_is)
    (case a21 => k_is)
    (case l21 => k_is)
    (case e21 => k_is)
    (case k21 => k_is)
    (case a22 => k_is)
    (case l22 => k_is)
    (case e22 => k_is)
    (case k22 => k_is)
    (case a23 => k_is)
    (case l23 => k_is)
    (case e23 => k_is)
    (case k23 => k_is)
    (case zb_ValueError => k_is)
    (case zb_all => k_is)
    (case zb_bool => k_is)
    (case zb_int => k_is)
    (case zb_isinstance => k_is)
    (case zb_len => k_is)
    (case zb_range => k_is)
    (case zb_str => k_is)
    (case zb_tuple => k_is)
    (case zb_zip => k_is)
    (case zg_HOLE => k_is)
    (case zg_LETTERS_docs => k_is)
    (case zg_LETTERS_turntexts => k_is)
    (case zg_TURNS => k_is)
    (case zf_ct_at => kernel_rfl)
    (case zf_ct_text => kernel_rfl)
    (case zf_ex_NoTurner => kernel_rfl)
    (case zf_fl_row => kernel_rfl)
    (case zf_is_GraftError => kernel_rfl)
    (case zf_is_NoBook_NoDocument_NoPattern => kernel_rfl)
    (case zf_is_ValueError => kernel_rfl)
    (case xa_NoTurner => k_is)
    (case xc_NoTurner => kernel_rfl)
    (case xi_NoTurner => k_is)
    (case xt_NoTurner => k_is)
    (case xn_NoTurner => k_is)
    (case xl_NoTurner => k_is)
    (case xe_NoTurner => k_is)
    (case xk_NoTurner => k_is)

