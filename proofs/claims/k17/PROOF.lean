import PyProof.Rows.All
import Wide.All
import OpenK.AllK
import Wide.FinOn
import HandS.Base
import HandS.Call
import HandS.List
import HandS.Comp
import HandS.Ends
import HandS.Dict
import HandS.Iter
import HandS.Text
import HandS.Exc
import HandS.TryOnly
import HandS.TryMany
import HandS.Words
import HandS.WordsList
import HandS.WordsDict
import HandS.WordsExc
import HandS.Lambda
import HandS.Slots
import KE.KDictKeyed
import KE.KeyNested
import HandS.IsInst
import HandS.TupAny
import HandS.Deep
import HandS.More
import HandS.SortInts
import HandS.Star
import HandS.DictComp
import KE.KDictSum
import HandS.DictEq
import HandS.Strs
import HandS.Set
import HandS.TupSets
import HandS.RaiseMore
import KE.KSortedM
import KE.DatumIndex
import PyProof.ReprRoads
import PyProof.DictUpdate
import HandS.Conv
import KE.KDictCopyH
import PyProof.TupleOfSeq
import PyProof.Rows.Range3
import HandS.ExcOwn
import HandS.CallLocal
import HandS.Defaults
import HandS.Nested
import HandS.Zip
import KE.GoesMore
import KE.KDictZip
import HandS.Style
import HandS.Small
import KE.KExcSuper
import KE.KExcInit
import HandS.ExcSuper
import HandS.EndTab
import HandS.HeadWalk
import HandS.Head0
import HandS.Head1
import HandS.Head2
import HandS.HeadEnd
import HandS.HeadHook1
import HandS.HeadHook2
import HandS.HeadHook3
import HandS.HeadHook4
import HandS.MakeKwOnly
import PySem.Challenge.RW_enoughsteps_k17_errors_of_ways
set_option Elab.async false
set_option linter.all false
set_option maxRecDepth 100000
namespace Rf
open PySem PySem.Spec PyProof.Rows L2
def hasK (l : List Key) (k : Key) : Bool := l.any fun x => decide (x = k)
def addKy (l : List Key) (k : Key) : List Key := if hasK l k then l else l ++ [k]
def ddK (l : List Key) : List Key := l.foldl addKy []
end Rf
set_option maxHeartbeats 2000000
namespace Rf
open PySem PySem.Spec PyProof.Rows L2

/-- an instance with slots is no code object -/
theorem slO_code {a C dx c : Addr} {q : Str} {vs : List (Option V)} : SlX.SlO a C dx vs ≠ LamX.CodeO c q := fun z => by
  unfold SlX.SlO LamX.CodeO at z
  injection z with z
  let oc : Obj := { cls := .none, dict := none, data := .fields #[.none, .str q 0], slots := #[] }
  let h : Heap := { objs := Array.replicate (max a c + 1) oc }
  have ge : ∀ b, b ≤ max a c → h.get? b = some oc := fun b hb => by
    have e : h.objs[b]? = some oc := by
      show (Array.replicate (max a c + 1) oc)[b]? = some oc
      rw [Array.getElem?_replicate, if_pos (Nat.lt_succ_of_le hb)]
    unfold Heap.get?
    rw [e]
  have y : ∃ (oc : Obj) (vs : Array Value) (t : Tok), h.get? c = some oc ∧ oc.data = .fields vs ∧ vs[1]? = some (.str q t) := ⟨oc, #[.none, .str q 0], 0, ge c (Nat.le_max_right _ _), rfl, rfl⟩
  have z := congrFun z h
  rw [← z] at y
  obtain ⟨sl, e, _⟩ := y
  rw [ge a (Nat.le_max_left _ _)] at e
  have e := Option.some.inj e
  have e2 : oc.data = ({ PySem.W.instObj C dx with slots := sl } : Obj).data := by rw [e]
  cases e2

/-- a dict whose keys are tuples, nested: its entries, where the keys stand -/
def NdF (P : Program) (w : World) (a : Addr) (xs : List (NestedKey × Addr × V)) (h : Heap) : Prop :=
  (a == sysModules) = false ∧ xs.length ≤ sizeLine ∧ (xs.map (·.1)).Nodup ∧ ∃ ys : List (NestedKey × Addr × Value),
    Paired (fun (p : NestedKey × Addr × V) (q : NestedKey × Addr × Value) => p.1 = q.1 ∧ p.2.1 = q.2.1 ∧ RelV p.2.2 q.2.2) xs ys ∧
    ∃ o es ep, h.get? a = some o ∧ o.ExactDict ∧ o.data = .dict es ep ∧ es.toList = ys.map (entryOfKey (nestedKind P w))
def NdO (P : Program) (w : World) (a : Addr) (xs : List (NestedKey × Addr × V)) : HO := .ext (NdF P w a xs)
theorem ndO_code {P : Program} {w : World} {a c : Addr} {q : Str} {xs : List (NestedKey × Addr × V)} : NdO P w a xs ≠ LamX.CodeO c q := fun z => by
  unfold NdO LamX.CodeO at z
  injection z with z
  let oc : Obj := { cls := .none, dict := none, data := .fields #[.none, .str q 0], slots := #[] }
  let h : Heap := { objs := Array.replicate (max a c + 1) oc }
  have ge : ∀ b, b ≤ max a c → h.get? b = some oc := fun b hb => by
    have e : h.objs[b]? = some oc := by
      show (Array.replicate (max a c + 1) oc)[b]? = some oc
      rw [Array.getElem?_replicate, if_pos (Nat.lt_succ_of_le hb)]
    unfold Heap.get?
    rw [e]
  have y : ∃ (oc : Obj) (vs : Array Value) (t : Tok), h.get? c = some oc ∧ oc.data = .fields vs ∧ vs[1]? = some (.str q t) := ⟨oc, #[.none, .str q 0], 0, ge c (Nat.le_max_right _ _), rfl, rfl⟩
  have z := congrFun z h
  rw [← z] at y
  obtain ⟨_, _, _, ys, _, o, es, ep, e, _, e2, _⟩ := y
  rw [ge a (Nat.le_max_left _ _)] at e
  have e := Option.some.inj e
  rw [← e] at e2
  cases e2

/-- a function made of a lambda that captures nothing -/
structure LamD where
  q : Str
  params : Arguments
  body : Expr
  scope : Scope
  c : Addr
def LamIs (f : Addr) (F : LamD) (h : Heap) : Prop := ∃ (od : Option Addr) (sl : Array (Option Value)) (pm ctv : Value), h.get? f = some (⟨.type "function", od, .func (PySem.W.kla_fn "<lambda>" F.q F.params F.body F.scope [] pm (.ref F.c) ctv), sl⟩ : Obj)
def LamO (f : Addr) (F : LamD) : HO := .ext (LamIs f F)
theorem lamO_code {f c : Addr} {q : Str} {F : LamD} : LamO f F ≠ LamX.CodeO c q := fun z => by
  unfold LamO LamX.CodeO at z
  injection z with z
  let oc : Obj := { cls := .none, dict := none, data := .fields #[.none, .str q 0], slots := #[] }
  let h : Heap := { objs := Array.replicate (max f c + 1) oc }
  have ge : ∀ b, b ≤ max f c → h.get? b = some oc := fun b hb => by
    have e : h.objs[b]? = some oc := by
      show (Array.replicate (max f c + 1) oc)[b]? = some oc
      rw [Array.getElem?_replicate, if_pos (Nat.lt_succ_of_le hb)]
    unfold Heap.get?
    rw [e]
  have y : ∃ (oc : Obj) (vs : Array Value) (t : Tok), h.get? c = some oc ∧ oc.data = .fields vs ∧ vs[1]? = some (.str q t) := ⟨oc, #[.none, .str q 0], 0, ge c (Nat.le_max_right _ _), rfl, rfl⟩
  have z := congrFun z h
  rw [← z] at y
  obtain ⟨od, sl, pm, ctv, e⟩ := y
  rw [ge f (Nat.le_max_left _ _)] at e
  have e := congrArg Obj.data (Option.some.inj e)
  cases e

/-! ### data, objects, how they lie in the abstract heap -/
inductive Uv where
  | non | bl (b : Bool) | int (i : Int) | str (x : Str) | ty (n : String) | tup (xs : List Uv) | obj (n : Nat) | glb (n : Nat) | alt (us : List Uv)
inductive Ob where
  | lst (xs : List Uv) | dic (kvs : List (Key × Uv)) | spn | dicL (kvs : List (Key × Uv))
  | ins (i d c : Nat) (st : Bool) (vs : List (Option Uv)) | dxo (st : Bool)
  | dicN (i : Nat) (kvs : List (Uv × Uv)) | lam (i j : Nat)
/-- locked: a loop goes over it -/
def Ob.lk : Ob → Bool
  | .dicL _ => true
  | _ => false
abbrev Env' := List (Option Uv)
structure Gs where
  K : PySem.W.Frag
  ad : Nat → Addr
  cl : Nat → Addr
  T : List (Addr × Str)
  P : Program
  w : World
  LS : Nat → LamD → Prop

mutual
def VR (g : Gs) (m : List Addr) (H : Hp) : Uv → V → Prop
  | .non, v => v = .non
  | .bl b, v => v = .bl b
  | .int i, v => v = .int i
  | .str x, v => v = .str x
  | .ty n, v => v = .ty n
  | .tup xs, v => ∃ p ys, v = .ref p ∧ SqT g.K H p ys ∧ VRs g m H xs ys
  | .obj n, v => ∃ p, v = .ref p ∧ m[n]? = some p
  | .glb n, v => v = .ref (g.ad n)
  | .alt us, v => VRa g m H us v
def VRa (g : Gs) (m : List Addr) (H : Hp) : List Uv → V → Prop
  | [], _ => False
  | u :: us, v => VR g m H u v ∨ VRa g m H us v
def VRs (g : Gs) (m : List Addr) (H : Hp) : List Uv → List V → Prop
  | [], ys => ys = []
  | x :: xs, ys => ∃ y r, ys = y :: r ∧ VR g m H x y ∧ VRs g m H xs r
end

structure Le (g : Gs) (m : List Addr) (H : Hp) (m' : List Addr) (H' : Hp) : Prop where
  pre : m <+: m'
  keep : ∀ p o, H p = some o → p ∉ m → (∀ ps, o ≠ .tbl ps) → H' p = some o
  new : ∀ p, p ∈ m' → p ∉ m → ∀ o, H p = some o → ∃ ps, o = .tbl ps
  sq : ∀ p ys, SqT g.K H p ys → SqT g.K H' p ys
  fz : ∀ p o u, H p = some (.frz o u) → H' p = some (.frz o u)
theorem Le.refl (g : Gs) (m : List Addr) (H : Hp) : Le g m H m H := ⟨List.prefix_refl _, fun _ _ e _ _ => e, fun _ a b => absurd a b, fun _ _ e => e, fun _ _ _ e => e⟩
theorem Le.trans {g : Gs} {m m1 m2 : List Addr} {H H1 H2 : Hp} (a : Le g m H m1 H1) (b : Le g m1 H1 m2 H2) : Le g m H m2 H2 := by
  refine ⟨a.pre.trans b.pre, fun p o e n nt => ?_, fun p i n o e => ?_, fun p ys e => b.sq p ys (a.sq p ys e), fun p o u e => b.fz p o u (a.fz p o u e)⟩
  · refine b.keep p o (a.keep p o e n nt) (fun hp => ?_) nt
    obtain ⟨ps, z⟩ := a.new p hp n o e
    exact nt ps z
  · by_cases hp : p ∈ m1
    · exact a.new p hp n o e
    · refine Classical.byContradiction fun nt => ?_
      exact nt (b.new p i hp o (a.keep p o e n fun ps z => nt ⟨ps, z⟩))
theorem pre_get {α : Type} {l l' : List α} (h : l <+: l') {n : Nat} {a : α} (e : l[n]? = some a) : l'[n]? = some a := by
  obtain ⟨t, rfl⟩ := h
  rw [List.getElem?_append_left (List.getElem?_eq_some_iff.mp e).1]; exact e
section
variable {g : Gs} {m m' : List Addr} {H H' : Hp}
mutual
theorem VR.tr (hm : m <+: m') (hs : ∀ p ys, SqT g.K H p ys → SqT g.K H' p ys) : ∀ (x : Uv) (v : V), VR g m H x v → VR g m' H' x v
  | .non, _, h => h
  | .bl _, _, h => h
  | .int _, _, h => h
  | .str _, _, h => h
  | .ty _, _, h => h
  | .tup xs, _, h => by
    obtain ⟨p, ys, e, a, b⟩ := h
    exact ⟨p, ys, e, hs _ _ a, VRs.tr hm hs xs ys b⟩
  | .obj _, _, h => by
    obtain ⟨p, e, a⟩ := h
    exact ⟨p, e, pre_get hm a⟩
  | .glb _, _, h => h
  | .alt us, v, h => VRa.tr hm hs us v h
theorem VRa.tr (hm : m <+: m') (hs : ∀ p ys, SqT g.K H p ys → SqT g.K H' p ys) : ∀ (us : List Uv) (v : V), VRa g m H us v → VRa g m' H' us v
  | [], _, h => h
  | u :: us, v, h => h.elim (fun h => .inl (VR.tr hm hs u v h)) fun h => .inr (VRa.tr hm hs us v h)
theorem VRs.tr (hm : m <+: m') (hs : ∀ p ys, SqT g.K H p ys → SqT g.K H' p ys) : ∀ (xs : List Uv) (ys : List V), VRs g m H xs ys → VRs g m' H' xs ys
  | [], _, h => h
  | x :: xs, _, h => by
    obtain ⟨y, r, e, a, b⟩ := h
    exact ⟨y, r, e, VR.tr hm hs x y a, VRs.tr hm hs xs r b⟩
end
theorem VR.mono (l : Le g m H m' H') (x : Uv) (v : V) (h : VR g m H x v) : VR g m' H' x v := VR.tr l.pre l.sq x v h
theorem VRa.mono (l : Le g m H m' H') (x : List Uv) (v : V) (h : VRa g m H x v) : VRa g m' H' x v := VRa.tr l.pre l.sq x v h
theorem VRs.mono (l : Le g m H m' H') (x : List Uv) (v : List V) (h : VRs g m H x v) : VRs g m' H' x v := VRs.tr l.pre l.sq x v h
theorem VRa.get : ∀ {us : List Uv} {v : V}, VRa g m H us v → ∃ (i : Nat) (u : Uv), us[i]? = some u ∧ VR g m H u v
  | [], _, h => h.elim
  | u :: us, v, h => by
    rcases h with h | h
    · exact ⟨0, u, rfl, h⟩
    · obtain ⟨i, w, e, r⟩ := VRa.get h
      exact ⟨i + 1, w, by rw [List.getElem?_cons_succ]; exact e, r⟩
theorem VRs.nil : VRs g m H [] [] := rfl
theorem VRs.cons {x : Uv} {y : V} {xs : List Uv} {ys : List V} (a : VR g m H x y) (b : VRs g m H xs ys) : VRs g m H (x :: xs) (y :: ys) := ⟨y, ys, rfl, a, b⟩
theorem VRs.length : ∀ {xs : List Uv} {ys : List V}, VRs g m H xs ys → xs.length = ys.length
  | [], _, h => by rw [show _ = [] from h] <;> rfl
  | x :: xs, _, h => by
    obtain ⟨y, r, e, _, b⟩ := h
    rw [e, List.length_cons, List.length_cons, VRs.length b]
theorem VRs.append : ∀ {xs xs' : List Uv} {ys ys' : List V}, VRs g m H xs ys → VRs g m H xs' ys' → VRs g m H (xs ++ xs') (ys ++ ys')
  | [], _, _, _, h, h' => by rw [show _ = [] from h]; exact h'
  | x :: xs, _, _, _, h, h' => by
    obtain ⟨y, r, e, a, b⟩ := h
    subst e
    exact .cons a (VRs.append b h')
theorem VRs.get : ∀ {xs : List Uv} {ys : List V} {i : Nat} {x : Uv}, VRs g m H xs ys → xs[i]? = some x → ∃ y, ys[i]? = some y ∧ VR g m H x y
  | [], _, _, _, _, e => by simp at e
  | a :: xs, _, 0, x, h, e => by
    obtain ⟨y, r, e', p, q⟩ := h
    subst e'
    have e2 : a = x := by simpa using e
    subst e2
    exact ⟨y, rfl, p⟩
  | a :: xs, _, i + 1, x, h, e => by
    obtain ⟨y, r, e', p, q⟩ := h
    subst e'
    obtain ⟨z, e1, e2⟩ := VRs.get (i := i) (x := x) q (by simpa using e)
    exact ⟨z, by simpa using e1, e2⟩
theorem VRs.none : ∀ {xs : List Uv} {ys : List V} {i : Nat}, VRs g m H xs ys → xs[i]? = none → ys[i]? = none := fun {xs ys i} h e => by
  have l := h.length
  have z := List.getElem?_eq_none_iff.mp e
  exact List.getElem?_eq_none_iff.mpr (by omega)
theorem VRs.take : ∀ {xs : List Uv} {ys : List V} (n : Nat), VRs g m H xs ys → VRs g m H (xs.take n) (ys.take n)
  | _, _, 0, _ => by rw [List.take_zero, List.take_zero]; exact .nil
  | [], _, _ + 1, h => by rw [show _ = [] from h, List.take_nil, List.take_nil]; exact .nil
  | x :: xs, _, n + 1, h => by
    obtain ⟨y, r, e, a, b⟩ := h
    subst e
    exact .cons a (VRs.take n b)
theorem VRs.drop : ∀ {xs : List Uv} {ys : List V} (n : Nat), VRs g m H xs ys → VRs g m H (xs.drop n) (ys.drop n)
  | _, _, 0, h => h
  | [], _, _ + 1, h => by rw [show _ = [] from h, List.drop_nil, List.drop_nil]; exact .nil
  | x :: xs, _, n + 1, h => by
    obtain ⟨y, r, e, a, b⟩ := h
    subst e
    exact VRs.drop n b
theorem VRs.reverse : ∀ {xs : List Uv} {ys : List V}, VRs g m H xs ys → VRs g m H xs.reverse ys.reverse
  | [], _, h => by rw [show _ = [] from h]; exact .nil
  | x :: xs, _, h => by
    obtain ⟨y, r, e, a, b⟩ := h
    subst e
    rw [List.reverse_cons, List.reverse_cons]
    exact VRs.append (VRs.reverse b) (.cons a .nil)
theorem VRs.set {x : Uv} {y : V} (p : VR g m H x y) : ∀ {xs : List Uv} {ys : List V} (i : Nat), VRs g m H xs ys → VRs g m H (xs.set i x) (ys.set i y)
  | [], _, _, h => by rw [show _ = [] from h]; exact .nil
  | _ :: _, _, 0, h => by
    obtain ⟨y, r, e, a, b⟩ := h
    subst e
    exact .cons p b
  | _ :: _, _, i + 1, h => by
    obtain ⟨y, r, e, a, b⟩ := h
    subst e
    exact .cons a (VRs.set p i b)
theorem VRs.dropLast {xs : List Uv} {ys : List V} (h : VRs g m H xs ys) : VRs g m H xs.dropLast ys.dropLast := by
  rw [List.dropLast_eq_take, List.dropLast_eq_take, h.length]
  exact h.take _
theorem VRs.rep {xs : List Uv} {ys : List V} (h : VRs g m H xs ys) : ∀ k : Nat, VRs g m H (List.replicate k xs).flatten (List.replicate k ys).flatten
  | 0 => .nil
  | k + 1 => by
    rw [List.replicate_succ, List.replicate_succ, List.flatten_cons, List.flatten_cons]
    exact h.append (VRs.rep h k)
end

def KRs (g : Gs) (m : List Addr) (H : Hp) : List (Key × Uv) → List (Key × V) → Prop
  | [], l => l = []
  | (k, x) :: r, l => ∃ y t, l = (k, y) :: t ∧ VR g m H x y ∧ KRs g m H r t
theorem KRs.tr {g : Gs} {m m' : List Addr} {H H' : Hp} (hm : m <+: m') (hs : ∀ p ys, SqT g.K H p ys → SqT g.K H' p ys) : ∀ (xs : List (Key × Uv)) (ys : List (Key × V)), KRs g m H xs ys → KRs g m' H' xs ys
  | [], _, h => h
  | (k, x) :: xs, _, h => by
    obtain ⟨y, r, e, a, b⟩ := h
    exact ⟨y, r, e, VR.tr hm hs x y a, KRs.tr hm hs xs r b⟩
theorem KRs.mono {g : Gs} {m m' : List Addr} {H H' : Hp} (l : Le g m H m' H') (xs : List (Key × Uv)) (ys : List (Key × V)) (h : KRs g m H xs ys) : KRs g m' H' xs ys := KRs.tr l.pre l.sq xs ys h
theorem KRs.length {g : Gs} {m : List Addr} {H : Hp} : ∀ {xs : List (Key × Uv)} {ys : List (Key × V)}, KRs g m H xs ys → xs.length = ys.length
  | [], _, h => by rw [show _ = [] from h] <;> rfl
  | (k, x) :: xs, _, h => by
    obtain ⟨y, r, e, _, b⟩ := h
    rw [e, List.length_cons, List.length_cons, KRs.length b]
/-- slots of an instance -/
def VRo (g : Gs) (m : List Addr) (H : Hp) : List (Option Uv) → List (Option V) → Prop
  | [], ws => ws = []
  | none :: r, ws => ∃ t, ws = none :: t ∧ VRo g m H r t
  | some u :: r, ws => ∃ y t, ws = some y :: t ∧ VR g m H u y ∧ VRo g m H r t
theorem VRo.tr {g : Gs} {m m' : List Addr} {H H' : Hp} (hm : m <+: m') (hs : ∀ p ys, SqT g.K H p ys → SqT g.K H' p ys) : ∀ (xs : List (Option Uv)) (ys : List (Option V)), VRo g m H xs ys → VRo g m' H' xs ys
  | [], _, h => h
  | none :: xs, _, h => by
    obtain ⟨r, e, b⟩ := h
    exact ⟨r, e, VRo.tr hm hs xs r b⟩
  | some x :: xs, _, h => by
    obtain ⟨y, r, e, a, b⟩ := h
    exact ⟨y, r, e, VR.tr hm hs x y a, VRo.tr hm hs xs r b⟩
theorem VRo.length {g : Gs} {m : List Addr} {H : Hp} : ∀ {xs : List (Option Uv)} {ys : List (Option V)}, VRo g m H xs ys → xs.length = ys.length
  | [], _, h => by rw [show _ = [] from h] <;> rfl
  | none :: xs, _, h => by
    obtain ⟨r, e, b⟩ := h
    rw [e, List.length_cons, List.length_cons, VRo.length b]
  | some x :: xs, _, h => by
    obtain ⟨y, r, e, a, b⟩ := h
    rw [e, List.length_cons, List.length_cons, VRo.length b]
theorem VRo.get {g : Gs} {m : List Addr} {H : Hp} : ∀ {xs : List (Option Uv)} {ys : List (Option V)} {i : Nat} {u : Uv}, VRo g m H xs ys → xs[i]? = some (some u) → ∃ y, ys[i]? = some (some y) ∧ VR g m H u y
  | [], _, _, _, _, e => by simp at e
  | a :: xs, _, 0, u, h, e => by
    have e2 : a = some u := by simpa using e
    subst e2
    obtain ⟨y, r, e', p, q⟩ := h
    subst e'
    exact ⟨y, rfl, p⟩
  | none :: xs, _, i + 1, u, h, e => by
    obtain ⟨r, e', q⟩ := h
    subst e'
    obtain ⟨z, e1, e2⟩ := VRo.get (i := i) (u := u) q (by simpa using e)
    exact ⟨z, by simpa using e1, e2⟩
  | some x :: xs, _, i + 1, u, h, e => by
    obtain ⟨y, r, e', p, q⟩ := h
    subst e'
    obtain ⟨z, e1, e2⟩ := VRo.get (i := i) (u := u) q (by simpa using e)
    exact ⟨z, by simpa using e1, e2⟩
theorem VRo.append {g : Gs} {m : List Addr} {H : Hp} : ∀ {xs xs' : List (Option Uv)} {ys ys' : List (Option V)}, VRo g m H xs ys → VRo g m H xs' ys' → VRo g m H (xs ++ xs') (ys ++ ys')
  | [], _, _, _, h, h' => by rw [show _ = [] from h]; exact h'
  | none :: xs, _, _, _, h, h' => by
    obtain ⟨r, e, b⟩ := h
    subst e
    exact ⟨_, rfl, VRo.append b h'⟩
  | some x :: xs, _, _, _, h, h' => by
    obtain ⟨y, r, e, a, b⟩ := h
    subst e
    exact ⟨y, _, rfl, a, VRo.append b h'⟩
theorem VRo.nones {g : Gs} {m : List Addr} {H : Hp} : ∀ n : Nat, VRo g m H (List.replicate n none) (List.replicate n none)
  | 0 => rfl
  | n + 1 => ⟨_, rfl, VRo.nones n⟩
theorem VRo.set {g : Gs} {m : List Addr} {H : Hp} {x : Uv} {y : V} (p : VR g m H x y) : ∀ {xs : List (Option Uv)} {ys : List (Option V)} (i : Nat), VRo g m H xs ys → VRo g m H (xs.set i (some x)) (ys.set i (some y))
  | [], _, _, h => by rw [show _ = [] from h]; exact rfl
  | none :: _, _, 0, h => by
    obtain ⟨r, e, b⟩ := h
    subst e
    exact ⟨y, _, rfl, p, b⟩
  | some _ :: _, _, 0, h => by
    obtain ⟨_, r, e, a, b⟩ := h
    subst e
    exact ⟨y, _, rfl, p, b⟩
  | none :: _, _, i + 1, h => by
    obtain ⟨r, e, b⟩ := h
    subst e
    exact ⟨_, rfl, VRo.set p i b⟩
  | some _ :: _, _, i + 1, h => by
    obtain ⟨w, r, e, a, b⟩ := h
    subst e
    exact ⟨w, _, rfl, a, VRo.set p i b⟩
/-- a slot stored -/
def putU (i : Nat) (u : Uv) (vs : List (Option Uv)) : List (Option Uv) := (vs ++ List.replicate (i + 1 - vs.length) none).set i (some u)
theorem VRo.put {g : Gs} {m : List Addr} {H : Hp} {x : Uv} {y : V} (p : VR g m H x y) {xs : List (Option Uv)} {ys : List (Option V)} (i : Nat) (h : VRo g m H xs ys) : VRo g m H (putU i x xs) (SlX.putS i y ys) := by
  unfold putU SlX.putS
  rw [h.length]
  exact VRo.set p i (VRo.append h (VRo.nones _))
mutual
/-- a value as a key -/
def nkU : Uv → Option NestedKey
  | .non => some .none
  | .int i => some (.num i)
  | .str x => some (.text x)
  | .tup xs => match nkUs xs with
    | some ks => some (.tup ks)
    | none => none
  | _ => none
def nkUs : List Uv → Option (List NestedKey)
  | [] => some []
  | u :: r => match nkU u, nkUs r with
    | some k, some ks => some (k :: ks)
    | _, _ => none
end
/-- entries of a dict whose keys are nested -/
def NKs (g : Gs) (m : List Addr) (H : Hp) : List (Uv × Uv) → List (NestedKey × Addr × V) → Prop
  | [], l => l = []
  | (u, x) :: r, l => ∃ k b y t, l = (k, b, y) :: t ∧ (nkU u = some k ∧ k.depth ≤ 8) ∧ VR g m H u (.ref b) ∧ VR g m H x y ∧ NKs g m H r t
theorem NKs.tr {g : Gs} {m m' : List Addr} {H H' : Hp} (hm : m <+: m') (hs : ∀ p ys, SqT g.K H p ys → SqT g.K H' p ys) : ∀ (xs : List (Uv × Uv)) (ys : List (NestedKey × Addr × V)), NKs g m H xs ys → NKs g m' H' xs ys
  | [], _, h => h
  | (u, x) :: xs, _, h => by
    obtain ⟨k, b, y, r, e, n, a, a2, q⟩ := h
    exact ⟨k, b, y, r, e, n, VR.tr hm hs u _ a, VR.tr hm hs x y a2, NKs.tr hm hs xs r q⟩
theorem NKs.length {g : Gs} {m : List Addr} {H : Hp} : ∀ {xs : List (Uv × Uv)} {ys : List (NestedKey × Addr × V)}, NKs g m H xs ys → xs.length = ys.length
  | [], _, h => by rw [show _ = [] from h] <;> rfl
  | (u, x) :: xs, _, h => by
    obtain ⟨k, b, y, r, e, _, _, _, q⟩ := h
    rw [e, List.length_cons, List.length_cons, NKs.length q]
/-- an object -/
def OR (g : Gs) (m : List Addr) (H : Hp) : Ob → HO → Prop
  | .lst xs, o => ∃ ys, o = .lst ys ∧ VRs g m H xs ys
  | .dic kvs, o => ∃ l : List (Key × V), o = .dK l ∧ KRs g m H kvs l
  | .spn, o => ∃ x y z : Int, o = .lst [.int x, .int y, .int z]
  | .dicL kvs, o => ∃ (od : Obj) (l : List (Key × V)), o = .frz od (.dK l) ∧ KRs g m H kvs l
  | .ins i d c true vs, o => ∃ (x dx : Addr) (ws : List (Option V)), m[i]? = some x ∧ m[d]? = some dx ∧ o = SlX.SlO x (g.cl c) dx ws ∧ VRo g m H vs ws
  | .ins _ d c false vs, o => ∃ dx : Addr, m[d]? = some dx ∧ o = .ins (g.cl c) dx [] ∧ vs = []
  | .dxo true, o => o = .xd []
  | .dxo false, o => ∃ x, o = .own x
  | .dicN i kvs, o => ∃ (a : Addr) (xs : List (NestedKey × Addr × V)), m[i]? = some a ∧ o = NdO g.P g.w a xs ∧ NKs g m H kvs xs
  | .lam i j, o => ∃ (f : Addr) (F : LamD), m[i]? = some f ∧ o = LamO f F ∧ g.LS j F ∧ H F.c = some (LamX.CodeO F.c F.q) ∧ F.c ∉ m
theorem OR.tr {g : Gs} {m m' : List Addr} {H H' : Hp} (hm : m <+: m') (hs : ∀ p ys, SqT g.K H p ys → SqT g.K H' p ys) (hc : ∀ c q, H c = some (LamX.CodeO c q) → c ∉ m → H' c = some (LamX.CodeO c q) ∧ c ∉ m') : ∀ {o : Ob} {ho : HO}, OR g m H o ho → OR g m' H' o ho
  | .lst xs, _, h => by
    obtain ⟨ys, e, a⟩ := h
    exact ⟨ys, e, VRs.tr hm hs _ _ a⟩
  | .dic xs, _, h => by
    obtain ⟨ys, e, a⟩ := h
    exact ⟨ys, e, KRs.tr hm hs _ _ a⟩
  | .spn, _, h => h
  | .dicL kvs, _, h => by
    obtain ⟨od, ys, e, a⟩ := h
    exact ⟨od, ys, e, KRs.tr hm hs _ _ a⟩
  | .ins i d c true vs, _, h => by
    obtain ⟨x, dx, ws, a, b, e, r⟩ := h
    exact ⟨x, dx, ws, pre_get hm a, pre_get hm b, e, VRo.tr hm hs _ _ r⟩
  | .ins _ d c false vs, _, h => by
    obtain ⟨dx, b, e⟩ := h
    exact ⟨dx, pre_get hm b, e⟩
  | .dxo true, _, h => h
  | .dxo false, _, h => h
  | .dicN i kvs, _, h => by
    obtain ⟨a, xs, e, e2, r⟩ := h
    exact ⟨a, xs, pre_get hm e, e2, NKs.tr hm hs _ _ r⟩
  | .lam i j, _, h => by
    obtain ⟨f, F, e, e2, e3, e4, e5⟩ := h
    exact ⟨f, F, pre_get hm e, e2, e3, hc _ _ e4 e5⟩
theorem code_ne {c : Addr} {q : Str} (ps : Array Value) : LamX.CodeO c q ≠ .tbl ps := fun z => by
  unfold LamX.CodeO at z
  cases z
theorem OR.mono {g : Gs} {m m' : List Addr} {H H' : Hp} (l : Le g m H m' H') {o : Ob} {ho : HO} (h : OR g m H o ho) : OR g m' H' o ho := OR.tr l.pre l.sq (fun c q e n => ⟨l.keep c _ e n (fun ps z => code_ne ps z), fun z => let ⟨ps, k⟩ := l.new c z n _ e; code_ne ps k⟩) h
theorem OR.nosq {g : Gs} {m : List Addr} {H : Hp} {o : Ob} {ho : HO} (h : OR g m H o ho) : (∀ ys, ho ≠ .tup ys) ∧ ∀ b u, ho ≠ .frz b (.tup u) := by
  cases o with
  | lst xs =>
    obtain ⟨ys, rfl, _⟩ := h
    exact ⟨fun _ z => (by cases z), fun _ _ z => (by cases z)⟩
  | dic xs =>
    obtain ⟨ys, rfl, _⟩ := h
    exact ⟨fun _ z => (by cases z), fun _ _ z => (by cases z)⟩
  | spn =>
    obtain ⟨_, _, _, rfl⟩ := h
    exact ⟨fun _ z => (by cases z), fun _ _ z => (by cases z)⟩
  | dicL xs =>
    obtain ⟨_, ys, rfl, _⟩ := h
    exact ⟨fun _ z => (by cases z), fun _ _ z => (by cases z)⟩
  | ins i d c st xs =>
    cases st with
    | true =>
      obtain ⟨_, _, _, _, _, rfl, _⟩ := h
      exact ⟨fun _ z => (by unfold SlX.SlO at z; cases z), fun _ _ z => (by unfold SlX.SlO at z; cases z)⟩
    | false =>
      obtain ⟨_, _, rfl, _⟩ := h
      exact ⟨fun _ z => (by cases z), fun _ _ z => (by cases z)⟩
  | dxo st =>
    cases st with
    | true =>
      have h : ho = .xd [] := h
      subst h
      exact ⟨fun _ z => (by cases z), fun _ _ z => (by cases z)⟩
    | false =>
      obtain ⟨_, rfl⟩ := h
      exact ⟨fun _ z => (by cases z), fun _ _ z => (by cases z)⟩
  | dicN i kvs =>
    obtain ⟨_, _, _, rfl, _⟩ := h
    exact ⟨fun _ z => (by unfold NdO at z; cases z), fun _ _ z => (by unfold NdO at z; cases z)⟩
  | lam i j =>
    obtain ⟨_, _, _, rfl, _⟩ := h
    exact ⟨fun _ z => (by unfold LamO at z; cases z), fun _ _ z => (by unfold LamO at z; cases z)⟩
/-- what is not locked is no locked thing -/
theorem OR.nofz {g : Gs} {m : List Addr} {H : Hp} {o : Ob} {ho : HO} (h : OR g m H o ho) (nl : o.lk = false) : ∀ b u, ho ≠ .frz b u := by
  cases o with
  | lst xs =>
    obtain ⟨ys, rfl, _⟩ := h
    exact fun _ _ z => by cases z
  | dic xs =>
    obtain ⟨ys, rfl, _⟩ := h
    exact fun _ _ z => by cases z
  | spn =>
    obtain ⟨_, _, _, rfl⟩ := h
    exact fun _ _ z => by cases z
  | dicL xs => cases nl
  | ins i d c st xs =>
    cases st with
    | true =>
      obtain ⟨_, _, _, _, _, rfl, _⟩ := h
      exact fun _ _ z => by unfold SlX.SlO at z; cases z
    | false =>
      obtain ⟨_, _, rfl, _⟩ := h
      exact fun _ _ z => by cases z
  | dxo st =>
    cases st with
    | true =>
      have h : ho = .xd [] := h
      subst h
      exact fun _ _ z => by cases z
    | false =>
      obtain ⟨_, rfl⟩ := h
      exact fun _ _ z => by cases z
  | dicN i kvs =>
    obtain ⟨_, _, _, rfl, _⟩ := h
    exact fun _ _ z => by unfold NdO at z; cases z
  | lam i j =>
    obtain ⟨_, _, _, rfl, _⟩ := h
    exact fun _ _ z => by unfold LamO at z; cases z

theorem OR.notab {g : Gs} {m : List Addr} {H : Hp} {o : Ob} {ho : HO} (h : OR g m H o ho) : (∀ ys, ho ≠ .tbl ys) ∧ ∀ c q, ho ≠ LamX.CodeO c q := by
  cases o with
  | lst xs =>
    obtain ⟨ys, rfl, _⟩ := h
    exact ⟨fun _ z => (by cases z), fun _ _ z => (by unfold LamX.CodeO at z; cases z)⟩
  | dic xs =>
    obtain ⟨ys, rfl, _⟩ := h
    exact ⟨fun _ z => (by cases z), fun _ _ z => (by unfold LamX.CodeO at z; cases z)⟩
  | spn =>
    obtain ⟨_, _, _, rfl⟩ := h
    exact ⟨fun _ z => (by cases z), fun _ _ z => (by unfold LamX.CodeO at z; cases z)⟩
  | dicL xs =>
    obtain ⟨_, ys, rfl, _⟩ := h
    exact ⟨fun _ z => (by cases z), fun _ _ z => (by unfold LamX.CodeO at z; cases z)⟩
  | ins i d c st xs =>
    cases st with
    | true =>
      obtain ⟨_, _, _, _, _, rfl, _⟩ := h
      exact ⟨fun _ z => (by unfold SlX.SlO at z; cases z), fun _ _ z => slO_code z⟩
    | false =>
      obtain ⟨_, _, rfl, _⟩ := h
      exact ⟨fun _ z => (by cases z), fun _ _ z => (by unfold LamX.CodeO at z; cases z)⟩
  | dxo st =>
    cases st with
    | true =>
      have h : ho = .xd [] := h
      subst h
      exact ⟨fun _ z => (by cases z), fun _ _ z => (by unfold LamX.CodeO at z; cases z)⟩
    | false =>
      obtain ⟨_, rfl⟩ := h
      exact ⟨fun _ z => (by cases z), fun _ _ z => (by unfold LamX.CodeO at z; cases z)⟩
  | dicN i kvs =>
    obtain ⟨_, _, _, rfl, _⟩ := h
    exact ⟨fun _ z => (by unfold NdO at z; cases z), fun _ _ z => ndO_code z⟩
  | lam i j =>
    obtain ⟨_, _, _, rfl, _⟩ := h
    exact ⟨fun _ z => (by unfold LamO at z; cases z), fun _ _ z => lamO_code z⟩
structure HR (g : Gs) (m : List Addr) (H : Hp) (h : List Ob) : Prop where
  tab : LamX.Tabs g.T H
  len : h.length = m.length
  nd : m.Nodup
  at_ : ∀ (n : Nat) (o : Ob), h[n]? = some o → ∃ p ho, m[n]? = some p ∧ H p = some ho ∧ OR g m H o ho
section
variable {g : Gs} {m m' : List Addr} {H H' : Hp} {h : List Ob}
theorem HR.there (x : HR g m H h) {p : Addr} (hp : p ∈ m) : ∃ (n : Nat) (o : Ob) (ho : HO), m[n]? = some p ∧ h[n]? = some o ∧ H p = some ho ∧ OR g m H o ho := by
  obtain ⟨n, hn, e⟩ := List.getElem_of_mem hp
  have e1 : m[n]? = some p := by rw [List.getElem?_eq_getElem hn, e]
  have hn' : n < h.length := by rw [x.len]; exact hn
  obtain ⟨q, ho, a, b, c⟩ := x.at_ n h[n] (List.getElem?_eq_getElem hn')
  rw [e1] at a; cases a
  exact ⟨n, h[n], ho, e1, List.getElem?_eq_getElem hn', b, c⟩
theorem HR.fresh (x : HR g m H h) {p : Addr} (hp : H p = none) : p ∉ m := fun hm => by
  obtain ⟨_, _, _, _, _, b, _⟩ := x.there hm
  rw [hp] at b; cases b
theorem sq_upd {p : Addr} {o : HO} (hp : H p = none) {q : Addr} {ys : List V} (s : SqT g.K H q ys) : SqT g.K (upd H p o) q ys := by
  rcases s with (s | ⟨u, s⟩) | s
  · exact .inl (.inl (by rw [upd_ne (ne_of_none s hp)]; exact s))
  · exact .inl (.inr ⟨u, by rw [upd_ne (ne_of_none s hp)]; exact s⟩)
  · exact .inr s
/-- a new object that the data do not name by a number (a tuple, or a thing apart) -/
theorem Le.put {p : Addr} {o : HO} (hp : H p = none) : Le g m H m (upd H p o) :=
  ⟨List.prefix_refl _, fun q u e _ _ => by rw [upd_ne (ne_of_none e hp)]; exact e, fun _ a b => absurd a b, fun _ _ s => sq_upd hp s, fun q o u e => by rw [upd_ne (ne_of_none e hp)]; exact e⟩
theorem tab_new {T : List (Addr × Str)} {p : Addr} {o : HO} (t : LamX.Tabs T H) (hp : H p = none) : LamX.Tabs T (upd H p o) := t.ext fun b u e => by rw [upd_ne (ne_of_none e hp)]; exact e
theorem HR.put {p : Addr} {o : HO} (x : HR g m H h) (hp : H p = none) : HR g m (upd H p o) h :=
  ⟨tab_new x.tab hp, x.len, x.nd, fun n u e => by
    obtain ⟨q, ho, a, b, c⟩ := x.at_ n u e
    exact ⟨q, ho, a, by rw [upd_ne (ne_of_none b hp)]; exact b, c.mono (Le.put hp)⟩⟩
/-- a new object with a number -/
theorem Le.alloc {p : Addr} {o : HO} (x : HR g m H h) (hp : H p = none) : Le g m H (m ++ [p]) (upd H p o) := by
  refine ⟨List.prefix_append _ _, fun q u e _ _ => by rw [upd_ne (ne_of_none e hp)]; exact e, fun q a b o eo => ?_, fun _ _ s => sq_upd hp s, fun q o u e => by rw [upd_ne (ne_of_none e hp)]; exact e⟩
  rcases List.mem_append.mp a with z | z
  · exact absurd z b
  · have e : q = p := by simpa using z
    rw [e, hp] at eo
    cases eo
theorem HR.alloc {p : Addr} {u : Ob} {o : HO} (x : HR g m H h) (hp : H p = none) (hu : OR g m H u o) : HR g (m ++ [p]) (upd H p o) (h ++ [u]) := by
  have l := Le.alloc (o := o) x hp
  refine ⟨tab_new x.tab hp, by rw [List.length_append, List.length_append, x.len] <;> rfl, ?_, fun n v e => ?_⟩
  · refine List.nodup_append.mpr ⟨x.nd, by simp, fun a ha b hb => ?_⟩
    have e : b = p := by simpa using hb
    rw [e]
    exact fun z => x.fresh hp (z ▸ ha)
  · by_cases hn : n < h.length
    · rw [List.getElem?_append_left hn] at e
      obtain ⟨q, ho, a, b, c⟩ := x.at_ n v e
      exact ⟨q, ho, pre_get l.pre a, by rw [upd_ne (ne_of_none b hp)]; exact b, c.mono l⟩
    · have hn' : n = h.length := by
        have := (List.getElem?_eq_some_iff.mp e).1
        rw [List.length_append] at this
        have : n < h.length + 1 := this
        omega
      subst hn'
      rw [List.getElem?_append_right (Nat.le_refl _), Nat.sub_self] at e
      have e' : u = v := by simpa using e
      subst e'
      refine ⟨p, o, ?_, upd_same, hu.mono l⟩
      rw [x.len, List.getElem?_append_right (Nat.le_refl _), Nat.sub_self] <;> rfl
theorem HR.inj (x : HR g m H h) {i j : Nat} {p : Addr} (a : m[i]? = some p) (b : m[j]? = some p) : i = j := by
  obtain ⟨h1, e1⟩ := List.getElem?_eq_some_iff.mp a
  obtain ⟨h2, e2⟩ := List.getElem?_eq_some_iff.mp b
  exact (List.getElem_inj x.nd).mp (e1.trans e2.symm)
/-- an object changed -/
theorem Le.set {n : Nat} {p : Addr} {u : Ob} {o : HO} (x : HR g m H h) (hn : m[n]? = some p) (hu : h[n]? = some u) (nl : u.lk = false := by rfl) : Le g m H m (upd H p o) := by
  obtain ⟨q, ho, a, b, c⟩ := x.at_ n u hu
  rw [hn] at a; cases a
  refine ⟨List.prefix_refl _, fun q w e ne _ => by rw [upd_ne (fun z => ne (by rw [z]; exact List.mem_of_getElem? hn))]; exact e, fun _ a b => absurd a b, fun q ys s => ?_, fun q w u' e => by rw [upd_ne (fun z => by rw [z, b] at e; exact c.nofz nl _ _ (Option.some.inj e))]; exact e⟩
  rcases s with (s | ⟨w, s⟩) | s
  · exact .inl (.inl (by rw [upd_ne (fun z => by rw [z, b] at s; exact c.nosq.1 _ (Option.some.inj s))]; exact s))
  · exact .inl (.inr ⟨w, by rw [upd_ne (fun z => by rw [z, b] at s; exact c.nosq.2 _ _ (Option.some.inj s))]; exact s⟩)
  · exact .inr s
theorem HR.set {n : Nat} {p : Addr} {u u' : Ob} {o : HO} (x : HR g m H h) (hn : m[n]? = some p) (hu : h[n]? = some u) (hu' : OR g m H u' o) (nl : u.lk = false := by rfl) : HR g m (upd H p o) (h.set n u') := by
  have l := Le.set (o := o) x hn hu nl
  obtain ⟨q0, ho0, a0, b0, c0⟩ := x.at_ n u hu
  rw [hn] at a0; cases a0
  refine ⟨fun r hr => ?_, by rw [List.length_set]; exact x.len, x.nd, fun k v e => ?_⟩
  · obtain ⟨ps, t1, t2, t3⟩ := x.tab r hr
    refine ⟨ps, by rw [upd_ne (fun z => c0.notab.1 ps (Option.some.inj (by rw [← b0, ← z]; exact t1)))]; exact t1, t2, fun pos cv hc => ?_⟩
    obtain ⟨c, e1, e2⟩ := t3 pos cv hc
    exact ⟨c, e1, by rw [upd_ne (fun z => c0.notab.2 _ _ (Option.some.inj (by rw [← b0, ← z]; exact e2)))]; exact e2⟩
  by_cases hk : n = k
  · subst hk
    rw [List.getElem?_set_self (List.getElem?_eq_some_iff.mp hu).1] at e
    cases e
    exact ⟨p, o, hn, upd_same, hu'.mono l⟩
  · rw [List.getElem?_set_ne hk] at e
    obtain ⟨q, ho, a, b, c⟩ := x.at_ k v e
    exact ⟨q, ho, a, (by rw [upd_ne (fun z => hk (x.inj hn (by rw [← z]; exact a)))]; exact b), c.mono l⟩
theorem HR.get (x : HR g m H h) {n : Nat} {u : Ob} {v : V} (hv : VR g m H (.obj n) v) (hu : h[n]? = some u) : ∃ p ho, v = .ref p ∧ m[n]? = some p ∧ H p = some ho ∧ OR g m H u ho := by
  obtain ⟨p, e, a⟩ := hv
  obtain ⟨q, ho, a', b, c⟩ := x.at_ n u hu
  rw [a] at a'; cases a'
  exact ⟨p, ho, e, a, b, c⟩
theorem HR.getL (x : HR g m H h) {n : Nat} {xs : List Uv} {v : V} (hv : VR g m H (.obj n) v) (hu : h[n]? = some (.lst xs)) : ∃ p ys, v = .ref p ∧ m[n]? = some p ∧ H p = some (.lst ys) ∧ VRs g m H xs ys := by
  obtain ⟨p, ho, e, a, b, ys, rfl, c⟩ := x.get hv hu
  exact ⟨p, ys, e, a, b, c⟩
theorem HR.getD (x : HR g m H h) {n : Nat} {xs : List (Key × Uv)} {v : V} (hv : VR g m H (.obj n) v) (hu : h[n]? = some (.dic xs)) :
    ∃ (p : Addr) (l : List (Key × V)), v = .ref p ∧ m[n]? = some p ∧ H p = some (.dK l) ∧ KRs g m H xs l := by
  obtain ⟨p, ho, e, a, b, l, rfl, c⟩ := x.get hv hu
  exact ⟨p, l, e, a, b, c⟩
theorem HR.getK (x : HR g m H h) {n : Nat} {xs : List (Key × Uv)} {v : V} (hv : VR g m H (.obj n) v) (hu : h[n]? = some (.dicL xs)) :
    ∃ (p : Addr) (od : Obj) (l : List (Key × V)), v = .ref p ∧ m[n]? = some p ∧ H p = some (.frz od (.dK l)) ∧ KRs g m H xs l := by
  obtain ⟨p, ho, e, a, b, od, l, rfl, c⟩ := x.get hv hu
  exact ⟨p, od, l, e, a, b, c⟩
theorem sq_turn {p : Addr} {u o : HO} (hp : H p = some u) (h1 : ∀ ys, u ≠ .tup ys) (h2 : ∀ b ys, u ≠ .frz b (.tup ys)) {q : Addr} {ys : List V} (s : SqT g.K H q ys) : SqT g.K (upd H p o) q ys := by
  rcases s with (s | ⟨w, s⟩) | s
  · exact .inl (.inl (by rw [upd_ne (fun z => by rw [z, hp] at s; exact h1 _ (Option.some.inj s))]; exact s))
  · exact .inl (.inr ⟨w, by rw [upd_ne (fun z => by rw [z, hp] at s; exact h2 _ _ (Option.some.inj s))]; exact s⟩)
  · exact .inr s
/-- a dict locked -/
theorem HR.lock {n : Nat} {p : Addr} {kvs : List (Key × Uv)} {l : List (Key × V)} (x : HR g m H h) (hn : m[n]? = some p) (hu : h[n]? = some (.dic kvs)) (hp : H p = some (.dK l)) (hk : KRs g m H kvs l) (od : Obj) :
    Le g m H m (upd H p (.frz od (.dK l))) ∧ HR g m (upd H p (.frz od (.dK l))) (h.set n (.dicL kvs)) :=
  ⟨Le.set x hn hu, x.set hn hu ⟨od, l, rfl, hk⟩⟩
/-- .. and let free again -/
theorem HR.unlock {n : Nat} {p : Addr} {kvs : List (Key × Uv)} {l : List (Key × V)} {od : Obj} {m' : List Addr} {H' : Hp} {h' : List Ob} (l1 : Le g m (upd H p (.frz od (.dK l))) m' H') (hm : m[n]? = some p) (hp : H p = some (.dK l)) (y : HR g m' H' h') (hu : h'[n]? = some (.dicL kvs)) :
    Le g m H m' (upd H' p (.dK l)) ∧ HR g m' (upd H' p (.dK l)) (h'.set n (.dic kvs)) ∧ H' p = some (.frz od (.dK l)) := by
  have hz : H' p = some (.frz od (.dK l)) := l1.fz p od _ upd_same
  have hn : m'[n]? = some p := pre_get l1.pre hm
  have pm : p ∈ m := List.mem_of_getElem? hm
  have sqT : ∀ q ys, SqT g.K H' q ys → SqT g.K (upd H' p (.dK l)) q ys := fun q ys s => sq_turn hz (fun _ z => by cases z) (fun _ _ z => by cases z) s
  refine ⟨⟨l1.pre, fun q o e ne nt => ?_, fun q a b o e => ?_, fun q ys s => ?_, fun q o u e => ?_⟩, ⟨fun r hr => ?_, by rw [List.length_set]; exact y.len, y.nd, fun k v e => ?_⟩, hz⟩
  · have hq : q ≠ p := fun z => ne (by rw [z]; exact pm)
    rw [upd_ne hq]
    exact l1.keep q o (by rw [upd_ne hq]; exact e) ne nt
  · have hq : q ≠ p := fun z => b (by rw [z]; exact pm)
    exact l1.new q a b o (by rw [upd_ne hq]; exact e)
  · exact sqT q ys (l1.sq q ys (sq_turn hp (fun _ z => by cases z) (fun _ _ z => by cases z) s))
  · have hq : q ≠ p := fun z => by rw [z, hp] at e; cases e
    rw [upd_ne hq]
    exact l1.fz q o u (by rw [upd_ne hq]; exact e)
  · obtain ⟨ps, t1, t2, t3⟩ := y.tab r hr
    refine ⟨ps, by rw [upd_ne (fun z => by rw [z, hz] at t1; cases t1)]; exact t1, t2, fun pos cv hc => ?_⟩
    obtain ⟨c, e1, e2⟩ := t3 pos cv hc
    exact ⟨c, e1, by rw [upd_ne (fun z => by rw [z, hz] at e2; cases e2)]; exact e2⟩
  · obtain ⟨q0, ho0, a0, b0, od0, l0, c0, d0⟩ := y.at_ n _ hu
    rw [hn] at a0; cases a0
    rw [c0, hz] at b0
    have e3 : l0 = l := by cases b0; rfl
    subst e3
    by_cases hk : n = k
    · subst hk
      rw [List.getElem?_set_self (List.getElem?_eq_some_iff.mp hu).1] at e
      cases e
      exact ⟨p, _, hn, upd_same, l0, rfl, KRs.tr (List.prefix_refl _) sqT _ _ d0⟩
    · rw [List.getElem?_set_ne hk] at e
      obtain ⟨q, ho, a, b, c⟩ := y.at_ k v e
      exact ⟨q, ho, a, (by rw [upd_ne (fun z => hk (y.inj hn (by rw [← z]; exact a)))]; exact b), OR.tr (List.prefix_refl _) sqT (fun cc q e2 n2 => ⟨by rw [upd_ne (fun z => n2 (by rw [z]; exact List.mem_of_getElem? hn))]; exact e2, n2⟩) c⟩
end

/-! ### results: a value, an exception (its class, its fields, the slots), a draw of a number below k, none -/
inductive R (α : Type) where
  | ok (a : α) | exc (c : Nat) (fs : List (Str × Uv)) (s : Env') (h : List Ob) | draw (k : Nat) (f : Nat → R α) | fail
def R.bind {α β : Type} (x : R α) (f : α → R β) : R β := match x with
  | .ok a => f a
  | .exc c fs s h => .exc c fs s h
  | .draw k q => .draw k fun r => (q r).bind f
  | .fail => .fail
abbrev XP := Nat → List (Str × Uv) → Env' → List Ob → Prop
def R.all {α : Type} (x : R α) (P : α → Prop) (E : XP) : Prop := match x with
  | .ok a => P a
  | .exc c fs s h => E c fs s h
  | .draw k q => ∀ r, r < k → (q r).all P E
  | .fail => False
theorem R.all_bind {α β : Type} {f : α → R β} {P : β → Prop} {E : XP} : ∀ {x : R α}, (x.bind f).all P E → x.all (fun a => (f a).all P E) E
  | .ok _, h => h
  | .exc _ _ _ _, h => h
  | .draw _ q, h => fun r hr => R.all_bind (x := q r) (h r hr)
  | .fail, h => h
theorem R.all_mono {α : Type} {P P' : α → Prop} {E E' : XP} (hP : ∀ a, P a → P' a) (hE : ∀ c fs s h, E c fs s h → E' c fs s h) : ∀ {x : R α}, x.all P E → x.all P' E'
  | .ok a, h => hP a h
  | .exc _ _ _ _, h => hE _ _ _ _ h
  | .draw _ q, h => fun r hr => R.all_mono hP hE (x := q r) (h r hr)
  | .fail, h => h

/-! ### the same, told of the abstract heap -/
/-- the slots -/
def SR (g : Gs) (m : List Addr) (H : Hp) (s : Env') (z : L2.St) : Prop := s.length = z.length ∧ ∀ (i : Nat) (u : Uv), s[i]? = some (some u) → ∃ v, z[i]? = some (some v) ∧ VR g m H u v
theorem SR.mono {g : Gs} {m m' : List Addr} {H H' : Hp} {s : Env'} {z : L2.St} (l : Le g m H m' H') (h : SR g m H s z) : SR g m' H' s z :=
  ⟨h.1, fun i u e => let ⟨v, a, b⟩ := h.2 i u e; ⟨v, a, VR.mono l u v b⟩⟩
theorem SR.put {g : Gs} {m : List Addr} {H : Hp} {s : Env'} {z : L2.St} {i : Nat} {u : Uv} {v : V} (h : SR g m H s z) (r : VR g m H u v) : SR g m H (s.set i (some u)) (z.set i (some v)) := by
  refine ⟨by rw [List.length_set, List.length_set]; exact h.1, fun j w e => ?_⟩
  by_cases hj : i = j
  · subst hj
    have hl := (List.getElem?_eq_some_iff.mp e).1
    rw [List.length_set] at hl
    rw [List.getElem?_set_self hl] at e
    cases e
    exact ⟨v, List.getElem?_set_self (by rw [← h.1]; exact hl), r⟩
  · rw [List.getElem?_set_ne hj] at e
    obtain ⟨x, a, b⟩ := h.2 j w e
    exact ⟨x, by rw [List.getElem?_set_ne hj]; exact a, b⟩
/-- slots forgotten -/
def wipeE (s : Env') : List Nat → Env'
  | [] => s
  | v :: vs => (wipeE s vs).set v none
theorem SR.none {g : Gs} {m : List Addr} {H : Hp} {s : Env'} {z : L2.St} (i : Nat) (h : SR g m H s z) : SR g m H (s.set i none) (z.set i none) := by
  refine ⟨by rw [List.length_set, List.length_set]; exact h.1, fun j w e => ?_⟩
  by_cases hj : i = j
  · subst hj
    have hl := (List.getElem?_eq_some_iff.mp e).1
    rw [List.length_set] at hl
    rw [List.getElem?_set_self hl] at e
    cases e
  · rw [List.getElem?_set_ne hj] at e
    obtain ⟨x, a, b⟩ := h.2 j w e
    exact ⟨x, by rw [List.getElem?_set_ne hj]; exact a, b⟩
theorem SR.wipe {g : Gs} {m : List Addr} {H : Hp} {s : Env'} {z : L2.St} (h : SR g m H s z) : ∀ vs : List Nat, SR g m H (wipeE s vs) (wipe z vs)
  | [] => h
  | v :: vs => SR.none v (SR.wipe h vs)
/-- an exception's own fields -/
def XR (g : Gs) (m : List Addr) (H : Hp) (fs : List (Str × Uv)) (d : Option Addr) : Prop :=
  (fs = [] ∧ d = none) ∨ ∃ (a : Addr) (l : List (Str × V)), d = some a ∧ H a = some (.xd l) ∧ a ∉ m ∧ l ≠ [] ∧ ∀ f u, fs.lookup f = some u → ∃ v, l.lookup f = some v ∧ VR g m H u v
/-- what else is known of the state: slots that hold fixed addresses, facts of the heap that last -/
structure Iv (g : Gs) where
  pin : List (Nat × Addr)
  J : List Addr → Hp → Prop
  mono : ∀ m H m' H', Le g m H m' H' → J m H → J m' H'
def Iv.no (g : Gs) : Iv g := ⟨[], fun _ _ => True, fun _ _ _ _ _ _ => trivial⟩
def CuR {g : Gs} (m : List Addr) (H : Hp) (q : Iv g) (z : L2.St) : Prop := (∀ p ∈ q.pin, z[p.1]? = some (some (.ref p.2))) ∧ q.J m H
theorem Le.stay {g : Gs} {m m' : List Addr} {H H' : Hp} (l : Le g m H m' H') {a : Addr} {o : HO} (e : H a = some o) (n : a ∉ m) (nt : ∀ ps, o ≠ .tbl ps) : H' a = some o ∧ a ∉ m' :=
  ⟨l.keep a o e n nt, fun z => let ⟨ps, q⟩ := l.new a z n o e; nt ps q⟩
theorem CuR.mono {g : Gs} {m m' : List Addr} {H H' : Hp} {q : Iv g} {z : L2.St} (l : Le g m H m' H') (h : CuR m H q z) : CuR m' H' q z := ⟨h.1, q.mono _ _ _ _ l h.2⟩
theorem XR.mono {g : Gs} {m m' : List Addr} {H H' : Hp} {fs : List (Str × Uv)} {d : Option Addr} (l : Le g m H m' H') (h : XR g m H fs d) : XR g m' H' fs d := by
  rcases h with h | ⟨a, k, e, h2, h3, h4⟩
  · exact .inl h
  · exact .inr ⟨a, k, e, (l.stay h2 h3 (fun _ z => by cases z)).1, (l.stay h2 h3 (fun _ z => by cases z)).2, h4.1, fun f u e => let ⟨v, a, b⟩ := h4.2 f u e; ⟨v, a, VR.mono l u v b⟩⟩
structure At (g : Gs) (q : Iv g) (m : List Addr) (s : Env') (h : List Ob) (z : L2.St) (H : Hp) : Prop where
  sr : SR g m H s z
  hr : HR g m H h
  cu : CuR m H q z
theorem At.to {g : Gs} {q : Iv g} {m m' : List Addr} {s : Env'} {h h' : List Ob} {z : L2.St} {H H' : Hp} (x : At g q m s h z H) (l : Le g m H m' H') (y : HR g m' H' h') : At g q m' s h' z H' := ⟨x.sr.mono l, y, x.cu.mono l⟩
/-- what holds of all ends of a result -/
def XS (g : Gs) (W : WX) (m : List Addr) (H : Hp) : XP := fun c fs s h => ∀ (m' : List Addr) (H' : Hp) (z : L2.St) (d : Option Addr), Le g m H m' H' → HR g m' H' h → SR g m' H' s z → XR g m' H' fs d → W (.ref (g.cl c)) d z H'
def Sat {α : Type} (g : Gs) (W : WX) (m : List Addr) (H : Hp) (r : R (α × List Ob)) (P : α → List Ob → List Addr → Hp → Prop) : Prop :=
  r.all (fun p => ∀ (m' : List Addr) (H' : Hp), Le g m H m' H' → HR g m' H' p.2 → P p.1 p.2 m' H') (XS g W m H)
section
variable {g : Gs} {W : WX} {m m' : List Addr} {H H' : Hp} {α β : Type}
theorem XS.mono (l : Le g m H m' H') {c : Nat} {fs : List (Str × Uv)} {s : Env'} {h : List Ob} (x : XS g W m H c fs s h) : XS g W m' H' c fs s h := fun m2 H2 z d l2 a b e => x m2 H2 z d (l.trans l2) a b e
theorem Sat.bind {r : R (α × List Ob)} {f : α × List Ob → R (β × List Ob)} {P : β → List Ob → List Addr → Hp → Prop} (x : Sat g W m H (r.bind f) P) : Sat g W m H r (fun a h m' H' => Sat g W m' H' (f (a, h)) P) :=
  R.all_mono (fun p hp m1 H1 l1 _ => R.all_mono (fun p' hp' m2 H2 l2 hr2 => hp' m2 H2 (l1.trans l2) hr2) (fun _ _ _ _ e => e.mono l1) hp) (fun _ _ _ _ e => e) (R.all_bind x)
theorem Sat.imp {r : R (α × List Ob)} {P P' : α → List Ob → List Addr → Hp → Prop} (x : Sat g W m H r P) (h : ∀ a h m' H', Le g m H m' H' → HR g m' H' h → P a h m' H' → P' a h m' H') : Sat g W m H r P' :=
  R.all_mono (fun p hp m1 H1 l1 hr1 => h _ _ _ _ l1 hr1 (hp m1 H1 l1 hr1)) (fun _ _ _ _ e => e) x
theorem Sat.ok {a : α} {h : List Ob} {P : α → List Ob → List Addr → Hp → Prop} (x : Sat g W m H (.ok (a, h)) P) (l : Le g m H m' H') (hr : HR g m' H' h) : P a h m' H' := x m' H' l hr
theorem Sat.ok0 {a : α} {h : List Ob} {P : α → List Ob → List Addr → Hp → Prop} (x : Sat g W m H (.ok (a, h)) P) (hr : HR g m H h) : P a h m H := x m H (Le.refl _ _ _) hr
theorem Sat.no {P : α → List Ob → List Addr → Hp → Prop} (x : Sat g W m H (.fail) P) : False := x
end
/-- an expression's reading by a computation -/
def TEv (g : Gs) (W : WX) (q : Iv g) (r : Env' → List Ob → R (Uv × List Ob)) : TE := fun z H Q => ∃ m s h, At g q m s h z H ∧ Sat g W m H (r s h) fun u _ m' H' => ∀ v, VR g m' H' u v → Q v H'
def TTv (g : Gs) (W : WX) (q : Iv g) (r : Env' → List Ob → R (Bool × List Ob)) : TT := fun z H Q => ∃ m s h, At g q m s h z H ∧ Sat g W m H (r s h) fun b _ _ H' => Q b H'
def TAv (g : Gs) (W : WX) (q : Iv g) (r : Env' → List Ob → R (List Uv × List Ob)) : TA := fun z H Q => ∃ m s h, At g q m s h z H ∧ Sat g W m H (r s h) fun us _ m' H' => ∀ vs, VRs g m' H' us vs → Q vs H'
end Rf
set_option maxHeartbeats 2000000
namespace Rf
open PySem PySem.Spec PyProof.Rows L2

/-! ### the code as data -/
inductive IT where
  | nm (i : Nat) | tp (ts : List IT)
inductive Ty where
  | non | bl | int | str | tup | lst | dic
def Ty.nm : Ty → String
  | .non => "NoneType"
  | .bl => "bool"
  | .int => "int"
  | .str => "str"
  | .tup => "tuple"
  | .lst => "list"
  | .dic => "dict"
def Ty.no : Ty → Nat
  | .non => 0
  | .bl => 1
  | .int => 2
  | .str => 3
  | .tup => 4
  | .lst => 5
  | .dic => 6
inductive Bi where
  | len | tuple | list | sorted | all | any | min2 | max2 | abs | int | repr | lenset | tuprng | minD | dvals | dict
  deriving DecidableEq
inductive Me where
  | append | extend | pop | update | get1 | index | pop1
  deriving DecidableEq
mutual
inductive IE where
  | var (i : Nat) | lit (u : Uv) | glb (j : Nat)
  | bin (o : Operator) (a b : IE) | cmp (o : CmpOp) (a b : IE) | cmp2 (o p : CmpOp) (a b c : IE)
  | bop (o : BoolOp) (es : List IE) | not (a : IE) | neg (a : IE) | ite (t a b : IE)
  | tup (es : List IE) | lst (es : List IE) | star (e : IE)
  | sub (a i : IE) | slc (a : IE) (lo hi : Option IE)
  | call (f : Nat) (es : List IE) | callv (i : Nat) (es : List IE)
  | bi (b : Bi) (es : List IE) | isi (a : IE) (t : Ty)
  | met (m : Me) (o : IE) (es : List IE)
  | lc (e : IE) (t : IT) (it : II) (ifs : List IE) (own : List Nat)
  | dc (k v : IE) (t : IT) (it : II) (ifs : List IE) (own : List Nat)
  | dnil
  | thk (f : Nat) (e : IE)
  | act
  | fld (f : Str)
  | lazy (e : IE) | mrg (e : IE) | few (k : Nat) | spns (e : IE)
  | varL (i : Nat) | rev (e : IE) | dlit (k w : IE) | callk (f n : Nat) (es : List IE) (k : IE)
  | att (f : Nat) (e : IE) | metc (m : Nat) (o : IE) (es : List IE) | new (ci f : Nat) (es : List IE)
  | calld (f : Nat) (es : List IE) (ds : List Uv) | callvk (i : Nat) (es : List IE) (y : Str) (k : IE)
  | lc2 (e : IE) (t : IT) (it : II) (ifs : List IE) (t2 : IT) (it2 : II) (ifs2 : List IE) (own own2 : List Nat)
  | dc2 (k v : IE) (t : IT) (it : II) (ifs : List IE) (t2 : IT) (it2 : II) (ifs2 : List IE) (own own2 : List Nat)
  | lamv (j : Nat)
inductive II where
  | seq (e : IE) | rng1 (a : IE) | rng2 (a b : IE) | enm (e : IE) | zp (a b : IE)
  | rng3 (a b c : IE) | keys (e : IE) | itms (e : IE) | zpN (a b : IE)
end
/-- a target that is stored into -/
inductive TGt where
  | nm (t : IT) | at_ (f : Nat) (o : IE) | sub (o i : IE)
mutual
inductive IS where
  | ex (e : IE) | asg (t : IT) (e : IE) | par (is : List Nat) (es : List IE) | put (o i v : IE) | aug (i : Nat) (o : Operator) (e : IE)
  | ret (e : IE) | retN | ite (t : IE) (a b : List IS) | forI (t : IT) (it : II) (b : List IS) | whl (t : IE) (b : List IS)
  | rais (c : Nat) (f : Option Str) (e : IE) | tryS (b : List IS) (hs : List IH) | pass | brk | cnt
  | bad | pin (is : List Nat) (st : IS) | lock (i : Nat) (st : IS)
  | putA (f : Nat) (o w : IE) | asgM (ts : List TGt) (e : IE)
inductive IH where
  | mk (c : Nat) (n : Option Nat) (b : List IS)
end

/-! ### operations on data -/
/-! equality -/
mutual
def eqU : Uv → Uv → Bool
  | .non, .non => true
  | .bl a, .bl b => a == b
  | .int a, .int b => decide (a = b)
  | .str a, .str b => decide (a = b)
  | .ty a, .ty b => decide (a = b)
  | .tup a, .tup b => eqUs a b
  | .obj a, .obj b => a == b
  | .glb a, .glb b => a == b
  | .alt a, .alt b => eqUs a b
  | _, _ => false
def eqUs : List Uv → List Uv → Bool
  | [], [] => true
  | a :: as, b :: bs => eqU a b && eqUs as bs
  | _, _ => false
end
mutual
theorem eqU_ok : ∀ (a b : Uv), eqU a b = true → a = b
  | .non, b, h => by cases b <;> first | rfl | (simp [eqU] at h; done)
  | .bl a, b, h => by
    cases b <;> simp [eqU] at h
    rw [h]
  | .int a, b, h => by
    cases b <;> simp [eqU] at h
    rw [h]
  | .str a, b, h => by
    cases b <;> simp [eqU] at h
    rw [h]
  | .ty a, b, h => by
    cases b <;> simp [eqU] at h
    rw [h]
  | .tup a, b, h => by
    cases b <;> simp [eqU] at h
    rw [eqUs_ok a _ h]
  | .obj a, b, h => by
    cases b <;> simp [eqU] at h
    rw [h]
  | .glb a, b, h => by
    cases b <;> simp [eqU] at h
    rw [h]
  | .alt a, b, h => by
    cases b <;> simp [eqU] at h
    rw [eqUs_ok a _ h]
theorem eqUs_ok : ∀ (a b : List Uv), eqUs a b = true → a = b
  | [], b, h => by cases b <;> first | rfl | (simp [eqUs] at h; done)
  | a :: as, b, h => by
    cases b <;> simp [eqUs] at h
    rw [eqU_ok a _ h.1, eqUs_ok as _ h.2]
end
/-! keys that are tuples; instances -/
mutual
def kyB (n : Nat) : Uv → Bool
  | .non => true
  | .int _ => true
  | .str _ => true
  | .tup xs => match n with
    | 0 => false
    | n + 1 => kysB n xs
  | _ => false
def kysB (n : Nat) : List Uv → Bool
  | [] => true
  | u :: r => kyB n u && kysB n r
end
def keyT (u : Uv) : Bool := match u with
  | .tup xs => kysB 7 xs
  | _ => false
def gValU {α : Type} (kvs : List (Uv × α)) (k : Uv) : Option α := match kvs with
  | [] => none
  | (k', v) :: r => match eqU k' k with
    | true => some v
    | false => gValU r k
def hasU {α : Type} (kvs : List (Uv × α)) (k : Uv) : Bool := match kvs with
  | [] => false
  | (k', _) :: r => match eqU k' k with
    | true => true
    | false => hasU r k
def gRepU {α : Type} (kvs : List (Uv × α)) (k : Uv) (v : α) : List (Uv × α) := match kvs with
  | [] => []
  | (k', v') :: r => match eqU k' k with
    | true => (k', v) :: gRepU r k v
    | false => (k', v') :: gRepU r k v
def gPutU {α : Type} (kvs : List (Uv × α)) (k : Uv) (v : α) : List (Uv × α) := match hasU kvs k with
  | true => gRepU kvs k v
  | false => kvs ++ [(k, v)]
def gDropU {α : Type} (kvs : List (Uv × α)) (k : Uv) : List (Uv × α) := match kvs with
  | [] => []
  | (k', v') :: r => match eqU k' k with
    | true => gDropU r k
    | false => (k', v') :: gDropU r k
/-- a number among few -/
def lkN (l : List (Nat × Nat)) (n : Nat) : Option Nat := match l with
  | [] => none
  | (a, b) :: r => match Nat.beq a n with
    | true => some b
    | false => lkN r n
/-- an instance's slots as they stand -/
def insAt (n : Nat) (h : List Ob) : Option (Nat × Nat × List (Option Uv)) := match h[n]? with
  | some (.ins i d c st vs) => match st with
    | true => match h[d]? with
      | some (.dxo true) => if i = n then some (d, c, vs) else none
      | _ => none
    | false => match h[d]? with
      | some (.dxo _) => if i = n then some (d, c, vs) else none
      | _ => none
  | _ => none
/-- a function made of a lambda -/
def lamAt (n : Nat) (h : List Ob) : Option Nat := match h[n]? with
  | some (.lam i j) => match Nat.beq i n with
    | true => some j
    | false => none
  | _ => none
def lim : Nat := 100000
def gVal {α : Type} (kvs : List (Key × α)) (k : Key) : Option α := match kvs with
  | [] => none
  | (k', v) :: r => if k' = k then some v else gVal r k
def gPut {α : Type} (kvs : List (Key × α)) (k : Key) (v : α) : List (Key × α) :=
  if (kvs.any fun p => decide (p.1 = k)) = true then kvs.map (fun p => if p.1 = k then (p.1, v) else p) else kvs ++ [(k, v)]
def keyU : Uv → Option Key
  | .int i => some (.inl i)
  | .str x => some (.inr x)
  | _ => none
def uKey : Key → Uv
  | .inl i => .int i
  | .inr x => .str x
/-- an object of the heap -/
def obAt (u : Uv) (h : List Ob) : Option Ob := match u with
  | .obj n => h[n]?
  | _ => none
/-! plain data -/
mutual
def toD (n : Nat) (h : List Ob) (u : Uv) : Option PyData := match n with
  | 0 => none
  | n + 1 => match u with
    | .non => some .none
    | .bl b => some (.bool b)
    | .int i => some (.int i)
    | .str x => some (.str x)
    | .tup xs => (toDs n h xs).map .tuple
    | .obj k => match h[k]? with
      | some (.lst xs) => (toDs n h xs).map .list
      | _ => none
    | _ => none
def toDs (n : Nat) (h : List Ob) (us : List Uv) : Option (List PyData) := match n with
  | 0 => none
  | n + 1 => match us with
    | [] => some []
    | u :: r => match toD n h u with
      | none => none
      | some d => (toDs n h r).map (d :: ·)
end
def bothD (x y : Uv) (h : List Ob) (f : PyData → PyData → Bool) : R (Uv × List Ob) := match toD 200 h x, toD 200 h y with
  | some d, some e => if SeqAt.shaped d && SeqAt.shaped e then .ok (.bl (f d e), h) else .fail
  | _, _ => .fail
def evBin (o : Operator) (x y : Uv) (h : List Ob) : R (Uv × List Ob) := match o, x, y with
  | .Add, .int i, .int j => .ok (.int (i + j), h)
  | .Sub, .int i, .int j => .ok (.int (i - j), h)
  | .Mult, .int i, .int j => if decide (-(2 ^ 64) < i) && decide (i < 2 ^ 64) then .ok (.int (i * j), h) else .fail
  | .Mod, .int i, .int j => if j = 0 then .fail else .ok (.int (i.fmod j), h)
  | .FloorDiv, .int i, .int j => if decide (j ≠ 0) && decide (j.natAbs < 1073741824) then .ok (.int (i.fdiv j), h) else .fail
  | .Pow, .int i, .int j => if decide (0 ≤ j) && decide ((Builtin.Int.intBits i : Int) * j ≤ 2 ^ 27) then .ok (.int (i ^ j.toNat), h) else .fail
  | .Add, .str a, .str b => if a.length + b.length ≤ lim then .ok (.str (a ++ b), h) else .fail
  | .Add, .tup a, .tup b => if a.isEmpty then .fail else if a.length + b.length ≤ lim then .ok (.tup (a ++ b), h) else .fail
  | .Add, .obj n, .obj k => match h[n]?, h[k]? with
    | some (.lst a), some (.lst b) => if a.length + b.length ≤ lim then .ok (.obj h.length, h ++ [.lst (a ++ b)]) else .fail
    | _, _ => .fail
  | .Mult, .obj n, .int j => match h[n]? with
    | some (.lst a) => if decide (0 ≤ j) && decide (j < 2 ^ 63) && decide (a.length * j.toNat ≤ lim) then .ok (.obj h.length, h ++ [.lst (List.replicate j.toNat a).flatten]) else .fail
    | _ => .fail
  | _, _, _ => .fail
def anyN (c : Nat) : List Nat → Bool
  | [] => false
  | d :: r => match Nat.beq c d with
    | true => true
    | false => anyN c r
theorem anyN_eq (c : Nat) : ∀ l, anyN c l = decide (c ∈ l)
  | [] => by simp [anyN]
  | d :: r => by
    unfold anyN
    split
    · rename_i e
      have e := Nat.eq_of_beq_eq_true e
      simp [e]
    · rename_i e
      have e := Nat.ne_of_beq_eq_false e
      rw [anyN_eq c r]
      simp [e]
def inS (a b : Str) : Bool := match a with
  | ⟨⟨[c]⟩⟩ => anyN c b.cps.toList
  | a => !(Builtin.Str.occurrences b a 0 b.length 1).isEmpty
theorem inS_eq (a b : Str) : inS a b = !(Builtin.Str.occurrences b a 0 b.length 1).isEmpty := by
  unfold inS
  split
  · rename_i c
    rw [anyN_eq]
    exact (StrLaws.found_one b c).symm
  · rfl
/-- x in a list or tuple of plain data -/
def inD (x y : Uv) (h : List Ob) (f : Bool → Bool) : R (Uv × List Ob) := match toD 200 h x, toD 200 h y with
  | some d, some (.tuple ds) => if SeqAt.shaped d && SeqAt.shaped (.tuple ds) then .ok (.bl (f (ds.any fun z => PyData.eqv z d)), h) else .fail
  | some d, some (.list ds) => if SeqAt.shaped d && SeqAt.shaped (.list ds) then .ok (.bl (f (ds.any fun z => PyData.eqv z d)), h) else .fail
  | _, _ => .fail
/-- dicts, one of them empty -/
def eqE (x y : Uv) (h : List Ob) : Option Bool := match x, y with
  | .obj n, .obj k => match h[n]?, h[k]? with
    | some (.dic a), some (.dic b) => if a.isEmpty || b.isEmpty then some (a.isEmpty && b.isEmpty) else none
    | _, _ => none
  | _, _ => none
/-- a tuple among a dict's keys -/
def inN (x : Uv) (n : Nat) (h : List Ob) (f : Bool → Bool) : R (Uv × List Ob) := match h[n]? with
  | some (.dicN i kvs) => if Nat.beq i n && keyT x then .ok (.bl (f (gValU kvs x).isSome), h) else .fail
  | some (.dic []) => if keyT x then .ok (.bl (f false), h) else .fail
  | _ => .fail
def evCmp (o : CmpOp) (x y : Uv) (h : List Ob) : R (Uv × List Ob) := match o, x, y with
  | .Lt, .int i, .int j => .ok (.bl (decide (i < j)), h)
  | .LtE, .int i, .int j => .ok (.bl (decide (i ≤ j)), h)
  | .Gt, .int i, .int j => .ok (.bl (decide (j < i)), h)
  | .GtE, .int i, .int j => .ok (.bl (decide (j ≤ i)), h)
  | .Eq, .int i, .int j => .ok (.bl (i == j), h)
  | .NotEq, .int i, .int j => .ok (.bl (!(i == j)), h)
  | .Eq, .str i, .str j => .ok (.bl (i == j), h)
  | .NotEq, .str i, .str j => .ok (.bl (!(i == j)), h)
  | .Eq, x, y => match eqE x y h with
    | some b => .ok (.bl b, h)
    | none => bothD x y h PyData.eqv
  | .NotEq, x, y => bothD x y h fun d e => !PyData.eqv d e
  | .Is, x, .non => match x with
    | .alt _ => .fail
    | .non => .ok (.bl true, h)
    | _ => .ok (.bl false, h)
  | .IsNot, x, .non => match x with
    | .alt _ => .fail
    | .non => .ok (.bl false, h)
    | _ => .ok (.bl true, h)
  | .In, .str a, .str b => .ok (.bl (inS a b), h)
  | .In, x, .obj n => match h[n]?, keyU x with
    | some (.dic kvs), some k => .ok (.bl (gVal kvs k).isSome, h)
    | some (.dicL kvs), some k => .ok (.bl (gVal kvs k).isSome, h)
    | some (.lst _), _ => inD x (.obj n) h id
    | _, _ => inN x n h id
  | .In, x, .tup ys => inD x (.tup ys) h id
  | .NotIn, x, .tup ys => inD x (.tup ys) h not
  | .NotIn, x, .obj n => match h[n]?, keyU x with
    | some (.dic kvs), some k => .ok (.bl (!(gVal kvs k).isSome), h)
    | some (.dicL kvs), some k => .ok (.bl (!(gVal kvs k).isSome), h)
    | some (.lst _), _ => inD x (.obj n) h not
    | _, _ => inN x n h not
  | _, _, _ => .fail
/-- a value's truth -/
def truU (u : Uv) (h : List Ob) : Option Bool := match u with
  | .non => some false
  | .bl b => some b
  | .int i => some (i != 0)
  | .tup xs => some (!xs.isEmpty)
  | .obj n => match h[n]? with
    | some (.lst xs) => some (!xs.isEmpty)
    | some (.dic xs) => some (!xs.isEmpty)
    | _ => none
  | _ => none
def subN (n : Nat) (x : Uv) (h : List Ob) : R (Uv × List Ob) := match h[n]? with
  | some (.dicN i kvs) => if Nat.beq i n && keyT x then (match gValU kvs x with
    | some u => .ok (u, h)
    | none => .fail) else .fail
  | _ => .fail
def evSub (x i : Uv) (h : List Ob) : R (Uv × List Ob) := match x, i with
  | .tup xs, .int j => match atI xs j with
    | some u => .ok (u, h)
    | none => .fail
  | .obj n, i => match h[n]? with
    | some (.lst xs) => match i with
      | .int j => match atI xs j with
        | some u => .ok (u, h)
        | none => .fail
      | _ => .fail
    | some (.dic kvs) => match keyU i with
      | some k => match gVal kvs k with
        | some u => .ok (u, h)
        | none => .fail
      | none => .fail
    | some (.dicL kvs) => match keyU i with
      | some k => match gVal kvs k with
        | some u => .ok (u, h)
        | none => .fail
      | none => .fail
    | _ => subN n i h
  | _, _ => .fail
def cutU {α : Type} (xs : List α) (lo hi : Option Int) : List α := (xs.drop (HT.sIx xs.length 0 lo)).take (HT.sIx xs.length xs.length hi - HT.sIx xs.length 0 lo)
def evSlc (x : Uv) (lo hi : Option Int) (h : List Ob) : R (Uv × List Ob) := match x with
  | .tup xs => .ok (.tup (cutU xs lo hi), h)
  | .obj n => match h[n]? with
    | some (.lst xs) => .ok (.obj h.length, h ++ [.lst (cutU xs lo hi)])
    | _ => .fail
  | _ => .fail
/-- sorting -/
def insI (x : Int) : List Int → List Int
  | [] => [x]
  | y :: r => if x ≤ y then x :: y :: r else y :: insI x r
def srtI (l : List Int) : List Int := l.foldr insI []
def insS (x : Str) : List Str → List Str
  | [] => [x]
  | y :: r => if y.cps.toList < x.cps.toList then y :: insS x r else x :: y :: r
def srtS (l : List Str) : List Str := l.foldr insS []
def intsU : List Uv → Option (List Int)
  | [] => some []
  | .int i :: r => (intsU r).map (i :: ·)
  | _ => none
def strsU : List Uv → Option (List Str)
  | [] => some []
  | .str i :: r => (strsU r).map (i :: ·)
  | _ => none
def blsU : List Uv → Option (List Bool)
  | [] => some []
  | .bl i :: r => (blsU r).map (i :: ·)
  | _ => none
/-- tuples of whole numbers -/
def tupsU : List Uv → Option (List (List Int))
  | [] => some []
  | .tup xs :: r => match intsU xs with
    | some l => (tupsU r).map (l :: ·)
    | none => none
  | _ => none
def leI : List Int → List Int → Bool
  | [], _ => true
  | _ :: _, [] => false
  | a :: as, b :: bs => if a < b then true else if b < a then false else leI as bs
def insT (x : List Int) : List (List Int) → List (List Int)
  | [] => [x]
  | y :: r => match leI x y with
    | true => x :: y :: r
    | false => y :: insT x r
def srtT (l : List (List Int)) : List (List Int) := l.foldr insT []
def allT (d : Nat) (l : List (List Int)) : Bool := l.all fun x => Nat.beq x.length d && x.all fun i => decide (0 ≤ i) && decide (i < 2 ^ 64)
def evSortT (us : List Uv) (h : List Ob) : R (Uv × List Ob) := match tupsU us with
  | some (x :: r) => if Nat.ble 1 x.length && allT x.length (x :: r) then .ok (.obj h.length, h ++ [.lst ((srtT (x :: r)).map fun l => .tup (l.map .int))]) else .fail
  | _ => .fail
def evSort (us : List Uv) (h : List Ob) : R (Uv × List Ob) :=
  if us.length < 64 then
    match intsU us with
    | some l => .ok (.obj h.length, h ++ [.lst ((srtI l).map .int)])
    | none => match strsU us with
      | some l => .ok (.obj h.length, h ++ [.lst ((srtS l).map .str)])
      | none => match us with
        | [.tup [.int i, .int j]] => .ok (.obj h.length, h ++ [.lst [.tup [.int i, .int j]]])
        | _ => evSortT us h
  else .fail
def keysU : List Uv → Option (List Key)
  | [] => some []
  | u :: r => match keyU u with
    | none => none
    | some k => (keysU r).map (k :: ·)
/-- items of a list or a tuple -/
def itemsU (u : Uv) (h : List Ob) : Option (List Uv) := match u with
  | .tup xs => some xs
  | .obj n => match h[n]? with
    | some (.lst xs) => some xs
    | _ => none
  | _ => none
/-- items of a list, a tuple or a dict -/
def itemsD (u : Uv) (h : List Ob) : Option (List Uv) := match u with
  | .tup xs => some xs
  | .obj n => match h[n]? with
    | some (.lst xs) => some xs
    | some (.dic kvs) => some (kvs.map fun p => uKey p.1)
    | some (.dicL kvs) => some (kvs.map fun p => uKey p.1)
    | _ => none
  | _ => none
def reprU (u : Uv) (h : List Ob) : Option Str := match toD 200 h u with
  | some d => if SeqAt.shaped d && d.showable && decide (d.shown.length ≤ lim) then some d.shown else none
  | none => none
/-- pairs (key, value) -/
def prsU : List Uv → Option (List (Key × Uv))
  | [] => some []
  | .tup [k, w] :: r => match keyU k, prsU r with
    | some k, some l => some ((k, w) :: l)
    | _, _ => none
  | _ :: _ => none
def mergeG (kvs more : List (Key × Uv)) : List (Key × Uv) := more.foldl (fun acc p => gPut acc p.1 p.2) kvs
def evBi (b : Bi) (us : List Uv) (h : List Ob) : R (Uv × List Ob) := match b, us with
  | .len, [u] => match u with
    | .str x => if x.length ≤ lim then .ok (.int x.length, h) else .fail
    | .obj n => match h[n]? with
      | some (.lst xs) => .ok (.int xs.length, h)
      | some (.dic xs) => .ok (.int xs.length, h)
      | _ => .fail
    | .tup xs => .ok (.int xs.length, h)
    | _ => .fail
  | .tuple, [u] => match itemsD u h with
    | some xs => .ok (.tup xs, h)
    | none => .fail
  | .list, [u] => match itemsD u h with
    | some xs => .ok (.obj h.length, h ++ [.lst xs])
    | none => .fail
  | .sorted, [.obj n] => match h[n]? with
    | some (.lst xs) => evSort xs h
    | some (.dic kvs) => evSort (kvs.map fun p => uKey p.1) h
    | some (.dicL kvs) => evSort (kvs.map fun p => uKey p.1) h
    | some (.dicN i kvs) => if Nat.beq i n && Nat.blt kvs.length 64 then evSortT (kvs.map (·.1)) h else .fail
    | _ => .fail
  | .dict, [.obj n] => match h[n]? with
    | some (.lst xs) => match prsU xs with
      | some kvs => .ok (.obj h.length, h ++ [.dic (mergeG [] kvs)])
      | none => .fail
    | _ => .fail
  | .dvals, [.obj n] => match h[n]? with
    | some (.dic kvs) => .ok (.tup (kvs.map (·.2)), h)
    | _ => .fail
  | .minD, [.obj n] => match h[n]? with
    | some (.dic kvs) => match intsU (kvs.map fun p => uKey p.1) with
      | some (x :: r) => .ok (.int (r.foldl (fun a b => if b < a then b else a) x), h)
      | _ => .fail
    | _ => .fail
  | .all, [.obj n] => match h[n]? with
    | some (.lst xs) => match blsU xs with
      | some l => .ok (.bl (l.all id), h)
      | none => .fail
    | _ => .fail
  | .any, [.obj n] => match h[n]? with
    | some (.lst xs) => match blsU xs with
      | some l => .ok (.bl (l.any id), h)
      | none => .fail
    | _ => .fail
  | .min2, [.int i, .int j] => .ok (.int (if j < i then j else i), h)
  | .max2, [.int i, .int j] => .ok (.int (if j > i then j else i), h)
  | .abs, [.int i] => .ok (.int (if i < 0 then -i else i), h)
  | .int, [.int i] => .ok (.int i, h)
  | .int, [.bl k] => .ok (.int (if k then 1 else 0), h)
  | .repr, [u] => match reprU u h with
    | some x => .ok (.str x, h)
    | none => .fail
  | .lenset, [u] => match itemsU u h with
    | some xs => if xs.length < 64 then match keysU xs with
      | some l => .ok (.int (ddK l).length, h)
      | none => .fail
      else .fail
    | none => .fail
  | .tuprng, [.int j] => if decide (0 ≤ j) && decide (j ≤ lim) then .ok (.tup ((List.range j.toNat).map fun i => .int (i : Nat)), h) else .fail
  | _, _ => .fail
def evMet (m : Me) (o : Uv) (us : List Uv) (h : List Ob) : R (Uv × List Ob) := match m, o, us with
  | .append, .obj n, [u] => match h[n]? with
    | some (.lst xs) => if xs.length < lim then .ok (.non, h.set n (.lst (xs ++ [u]))) else .fail
    | _ => .fail
  | .extend, .obj n, [u] => match h[n]?, itemsU u h with
    | some (.lst xs), some ys => if xs.length + ys.length ≤ lim then .ok (.non, h.set n (.lst (xs ++ ys))) else .fail
    | _, _ => .fail
  | .pop, .obj n, [] => match h[n]? with
    | some (.lst xs) => match xs[xs.length - 1]? with
      | some u => .ok (u, h.set n (.lst xs.dropLast))
      | none => .fail
    | _ => .fail
  | .update, .obj n, [.obj k] => match h[n]?, h[k]? with
    | some (.dic xs), some (.dic ys) => if n = k then .fail else if xs.length + ys.length < lim then .ok (.non, h.set n (.dic (ys.foldl (fun acc p => gPut acc p.1 p.2) xs))) else .fail
    | _, _ => .fail
  | .get1, .obj n, [x] => match h[n]?, keyU x with
    | some (.dic kvs), some k => .ok ((gVal kvs k).getD .non, h)
    | some (.dicN i kvs), _ => if Nat.beq i n && keyT x then .ok ((gValU kvs x).getD .non, h) else .fail
    | some (.dic []), _ => if keyT x then .ok (.non, h) else .fail
    | _, _ => .fail
  | .pop1, .obj n, [x] => match h[n]? with
    | some (.dicN i kvs) => if Nat.beq i n && keyT x then (match gValU kvs x with
      | some u => .ok (u, h.set n (.dicN n (gDropU kvs x)))
      | none => .fail) else .fail
    | _ => .fail
  | .index, .obj n, [x] => match h[n]?, x with
    | some (.lst xs), .int i => match intsU xs with
      | some l => match l.findIdx? fun j => decide (j = i) with
        | some k => .ok (.int (k : Nat), h)
        | none => .fail
      | none => .fail
    | _, _ => .fail
  | _, _, _ => .fail
/-- the receiver's type is the method's -/
def metTy (m : Me) (u : Uv) (h : List Ob) : Bool := match u with
  | .obj n => match h[n]?, m with
    | some (.lst _), .append => true
    | some (.lst _), .extend => true
    | some (.lst _), .pop => true
    | some (.dic _), .update => true
    | some (.dic _), .get1 => true
    | some (.dicN i _), .get1 => Nat.beq i n
    | some (.dicN i _), .pop1 => Nat.beq i n
    | some (.lst _), .index => true
    | _, _ => false
  | _ => false
/-- a value's type -/
def tyU (u : Uv) (h : List Ob) : Option Ty := match u with
  | .non => some .non
  | .bl _ => some .bl
  | .int _ => some .int
  | .str _ => some .str
  | .tup _ => some .tup
  | .obj n => match h[n]? with
    | some (.lst _) => some .lst
    | some (.dic _) => some .dic
    | _ => none
  | _ => none
def kitT (a t : Ty) : Option Bool := match t with
  | .non => none
  | .int => match a with
    | .int => some true
    | .bl => some true
    | _ => some false
  | t => some (Nat.beq a.no t.no)
/-- what a loop goes over -/
inductive Rn where
  | lst (n : Nat) | tup (xs : List Uv) | str (x : Str) | rng (lo : Int) (n : Nat) | enL (n : Nat) | enT (xs : List Uv) | zL (a b : Nat) | zT (xs ys : List Uv)
  | rngC (lo c : Int) (n : Nat) | keys (n : Nat) | itms (n : Nat) | zLT (a : Nat) (ys : List Uv) | zTL (xs : List Uv) (b : Nat)
/-! equality of objects -/
def eqKs : List (Key × Uv) → List (Key × Uv) → Bool
  | [], [] => true
  | a :: as, b :: bs => decide (a.1 = b.1) && eqU a.2 b.2 && eqKs as bs
  | _, _ => false
def eqNs : List (Uv × Uv) → List (Uv × Uv) → Bool
  | [], [] => true
  | a :: as, b :: bs => eqU a.1 b.1 && eqU a.2 b.2 && eqNs as bs
  | _, _ => false
def eqOs : List (Option Uv) → List (Option Uv) → Bool
  | [], [] => true
  | none :: as, none :: bs => eqOs as bs
  | some a :: as, some b :: bs => eqU a b && eqOs as bs
  | _, _ => false
def eqO : Ob → Ob → Bool
  | .lst a, .lst b => eqUs a b
  | .dic a, .dic b => eqKs a b
  | .spn, .spn => true
  | .dicL a, .dicL b => eqKs a b
  | .dicN i a, .dicN j b => Nat.beq i j && eqNs a b
  | .ins i d c s a, .ins i' d' c' s' b => Nat.beq i i' && (Nat.beq d d' && (Nat.beq c c' && ((s == s') && eqOs a b)))
  | .dxo s, .dxo s' => s == s'
  | .lam i j, .lam i' j' => Nat.beq i i' && Nat.beq j j'
  | _, _ => false
def eqH : List Ob → List Ob → Bool
  | [], [] => true
  | a :: as, b :: bs => eqO a b && eqH as bs
  | _, _ => false
theorem eqKs_ok : ∀ (a b : List (Key × Uv)), eqKs a b = true → a = b
  | [], b, h => by cases b <;> first | rfl | (simp [eqKs] at h; done)
  | (k, a) :: as, b, h => by
    cases b with
    | nil => simp [eqKs] at h
    | cons b bs =>
      simp [eqKs] at h
      obtain ⟨⟨h1, h2⟩, h3⟩ := h
      obtain ⟨k', b'⟩ := b
      simp at h1 h2
      rw [h1, eqU_ok _ _ h2, eqKs_ok as _ h3]
theorem eqNs_ok : ∀ (a b : List (Uv × Uv)), eqNs a b = true → a = b
  | [], b, h => by cases b <;> first | rfl | (simp [eqNs] at h; done)
  | (k, a) :: as, b, h => by
    cases b with
    | nil => simp [eqNs] at h
    | cons b bs =>
      simp [eqNs] at h
      obtain ⟨⟨h1, h2⟩, h3⟩ := h
      obtain ⟨k', b'⟩ := b
      simp at h1 h2
      rw [eqU_ok _ _ h1, eqU_ok _ _ h2, eqNs_ok as _ h3]
theorem eqOs_ok : ∀ (a b : List (Option Uv)), eqOs a b = true → a = b
  | [], b, h => by cases b <;> first | rfl | (simp [eqOs] at h; done)
  | none :: as, b, h => by
    cases b with
    | nil => simp [eqOs] at h
    | cons b bs =>
      cases b with
      | none =>
        simp [eqOs] at h
        rw [eqOs_ok as _ h]
      | some b => simp [eqOs] at h
  | some a :: as, b, h => by
    cases b with
    | nil => simp [eqOs] at h
    | cons b bs =>
      cases b with
      | none => simp [eqOs] at h
      | some b =>
        simp [eqOs] at h
        rw [eqU_ok _ _ h.1, eqOs_ok as _ h.2]
theorem eqO_ok (a b : Ob) (h : eqO a b = true) : a = b := by
  cases a <;> cases b <;> simp [eqO] at h
  · rw [eqUs_ok _ _ h]
  · rw [eqKs_ok _ _ h]
  · rfl
  · rw [eqKs_ok _ _ h]
  · obtain ⟨h1, h2, h3, h4, h5⟩ := h
    rw [h1, h2, h3, h4, eqOs_ok _ _ h5]
  · rw [h]
  · rw [h.1, eqNs_ok _ _ h.2]
  · rw [h.1, h.2]
theorem eqH_ok : ∀ (a b : List Ob), eqH a b = true → a = b
  | [], b, h => by cases b <;> first | rfl | (simp [eqH] at h; done)
  | a :: as, b, h => by
    cases b <;> simp [eqH] at h
    rw [eqO_ok a _ h.1, eqH_ok as _ h.2]
/-- the ends of a tree of draws, where none is an exception -/
def leavesN (lv : Nat → Option (List (Uv × List Ob))) : Nat → Option (List (Uv × List Ob))
  | 0 => some []
  | n + 1 => match leavesN lv n with
    | none => none
    | some l => match lv n with
      | none => none
      | some l' => some (l ++ l')
def leaves : R (Uv × List Ob) → Option (List (Uv × List Ob))
  | .ok a => some [a]
  | .exc .. => none
  | .draw k f => leavesN (fun i => leaves (f i)) k
  | .fail => none
theorem leavesN_mem {lv : Nat → Option (List (Uv × List Ob))} : ∀ {n i : Nat} {l : List (Uv × List Ob)}, leavesN lv n = some l → i < n → ∃ l', lv i = some l' ∧ ∀ a ∈ l', a ∈ l
  | 0, i, l, _, hi => by omega
  | n + 1, i, l, h, hi => by
    unfold leavesN at h
    split at h
    · cases h
    · rename_i l1 e1
      split at h
      · cases h
      · rename_i l2 e2
        cases h
        by_cases e : i = n
        · subst e
          exact ⟨l2, e2, fun a ha => List.mem_append_right _ ha⟩
        · obtain ⟨l', h1, h2⟩ := leavesN_mem e1 (show i < n by omega)
          exact ⟨l', h1, fun a ha => List.mem_append_left _ (h2 a ha)⟩
theorem leaves_all {P : Uv × List Ob → Prop} {E : XP} : ∀ {r : R (Uv × List Ob)} {l : List (Uv × List Ob)}, leaves r = some l → (∀ a ∈ l, P a) → r.all P E
  | .ok a, l, h, hp => by
    cases h
    exact hp a List.mem_cons_self
  | .exc .., l, h, _ => by cases h
  | .draw k f, l, h, hp => fun i hi => by
    obtain ⟨l', h1, h2⟩ := leavesN_mem (show leavesN (fun i => leaves (f i)) k = some l from h) hi
    exact leaves_all h1 fun a ha => hp a (h2 a ha)
  | .fail, l, h, _ => by cases h
/-- one value that may be any of the ends' -/
def lazyR (r : R (Uv × List Ob)) : R (Uv × List Ob) := match leaves r with
  | some ((u, h) :: l) => if l.all (fun p => eqH p.2 h) then .ok (.alt (u :: l.map (·.1)), h) else .fail
  | _ => .fail
/-- ends that are all the same are one -/
def mrgR (r : R (Uv × List Ob)) : R (Uv × List Ob) := match leaves r with
  | some ((u, h) :: l) => if l.all (fun p => eqU p.1 u && eqH p.2 h) then .ok (u, h) else r
  | _ => r
/-- none: not known; some none: the end -/
def Rn.at (r : Rn) (h : List Ob) (i : Nat) : Option (Option Uv) := match r with
  | .lst n => match h[n]? with
    | some (.lst xs) => some xs[i]?
    | _ => none
  | .tup xs => some xs[i]?
  | .str x => some (x.cps.toList[i]?.map fun c => .str ⟨#[c]⟩)
  | .rng lo n => some (if i < n then some (.int (lo + i)) else none)
  | .enL n => match h[n]? with
    | some (.lst xs) => some (xs[i]?.map fun u => .tup [.int (i : Nat), u])
    | _ => none
  | .enT xs => some (xs[i]?.map fun u => .tup [.int (i : Nat), u])
  | .zL a b => match h[a]?, h[b]? with
    | some (.lst xs), some (.lst ys) => some (match xs[i]?, ys[i]? with
      | some u, some w => some (.tup [u, w])
      | _, _ => none)
    | _, _ => none
  | .zT xs ys => some (match xs[i]?, ys[i]? with
      | some u, some w => some (.tup [u, w])
      | _, _ => none)
  | .rngC lo c n => some (if i < n then some (.int (lo + i * c)) else none)
  | .keys n => match h[n]? with
    | some (.dicL kvs) => some (kvs[i]?.map fun p => uKey p.1)
    | _ => none
  | .itms n => match h[n]? with
    | some (.dicL kvs) => some (kvs[i]?.map fun p => .tup [uKey p.1, p.2])
    | _ => none
  | .zLT a ys => match h[a]? with
    | some (.lst xs) => some (match xs[i]?, ys[i]? with
      | some u, some w => some (.tup [u, w])
      | _, _ => none)
    | _ => none
  | .zTL xs b => match h[b]? with
    | some (.lst ys) => some (match xs[i]?, ys[i]? with
      | some u, some w => some (.tup [u, w])
      | _, _ => none)
    | _ => none
mutual
def setT (n : Nat) (t : IT) (u : Uv) (s : Env') : Option Env' := match n with
  | 0 => none
  | n + 1 => match t with
    | .nm i => some (s.set i (some u))
    | .tp ts => match u with
      | .tup us => setTs n ts us s
      | _ => none
def setTs (n : Nat) (ts : List IT) (us : List Uv) (s : Env') : Option Env' := match n with
  | 0 => none
  | n + 1 => match ts, us with
    | [], [] => some s
    | t :: ts, u :: us => match setT n t u s with
      | some s' => setTs n ts us s'
      | none => none
    | _, _ => none
end

/-! ### the evaluator -/
inductive Fl where
  | nx (s : Env') | rt (u : Uv) | bk (s : Env') | ct (s : Env')
/-- a class of instances: its slots, its properties, its methods, by numbers -/
def kwN (l : List (Nat × (Nat × Str))) (f : Nat) : Option (Nat × Str) := match l with
  | [] => none
  | p :: r => match Nat.beq p.1 f with
    | true => some p.2
    | false => kwN r f
structure Cl where
  slo : List (Nat × Nat)
  prp : List (Nat × Nat)
  mts : List (Nat × Nat)
structure Cf where
  call : Nat → List Uv → List Ob → R (Uv × List Ob)
  thunk : Nat → (List Ob → R (Uv × List Ob)) → List Ob → R (Uv × List Ob)
  gv : List Uv
  sup : Nat → Nat → Bool
  act : List Ob → R (Uv × List Ob)
  fs : List (Str × Uv)
  has : Nat → Bool
  fld : Nat → Str → Bool
  ncl : Nat
  cls : List Cl
  kws : List (Nat × (Nat × Str))
structure Ev where
  E : IE → Env' → List Ob → R (Uv × List Ob)
  Es : List IE → Env' → List Ob → R (List Uv × List Ob)
  T : IE → Env' → List Ob → R (Bool × List Ob)
  Ts : List IE → Env' → List Ob → R (Bool × List Ob)
  I : II → Env' → List Ob → R (Rn × List Ob)
  L : IE → IT → List IE → Rn → Nat → Nat → Env' → List Ob → R (Unit × List Ob)
  Dc : IE → IE → IT → List IE → Rn → Nat → Nat → Env' → List Ob → R (Unit × List Ob)
  L2 : IE → IT → List IE → IT → II → List IE → List Nat → Rn → Nat → Nat → Env' → List Ob → R (Unit × List Ob)
  D2 : IE → IE → IT → List IE → IT → II → List IE → List Nat → Rn → Nat → Nat → Env' → List Ob → R (Unit × List Ob)
  S : IS → Env' → List Ob → R (Fl × List Ob)
  Ss : List IS → Env' → List Ob → R (Fl × List Ob)
  F : IT → List IS → Rn → Nat → Env' → List Ob → R (Fl × List Ob)
  Wh : IE → List IS → Env' → List Ob → R (Fl × List Ob)
/-- an exception of a callee, at our slots -/
def R.here {α : Type} (r : R α) (s : Env') : R α := match r with
  | .ok a => .ok a
  | .exc c fs _ h => .exc c fs s h
  | .draw k f => .draw k fun i => (f i).here s
  | .fail => .fail
/-- an exception is caught -/
def R.catch {α : Type} (r : R α) (f : Nat → List (Str × Uv) → Env' → List Ob → R α) : R α := match r with
  | .ok a => .ok a
  | .exc c fs s h => f c fs s h
  | .draw k q => .draw k fun i => (q i).catch f
  | .fail => .fail
/-- no exception may leave -/
def R.calm {α : Type} (r : R α) : R α := match r with
  | .ok a => .ok a
  | .exc .. => .fail
  | .draw k q => .draw k fun i => (q i).calm
  | .fail => .fail
def setAll : List Nat → List Uv → Env' → Env'
  | i :: is, u :: us, s => setAll is us (s.set i (some u))
  | _, _, s => s
def optE (v : Ev) (e : Option IE) (s : Env') (h : List Ob) : R (Option Int × List Ob) := match e with
  | none => .ok (none, h)
  | some e => (v.E e s h).bind fun p => match p.1 with
    | .int i => .ok (some i, p.2)
    | _ => .fail
/-- d[k] = v -/
def putD (n : Nat) (k v : Uv) (h : List Ob) : Option (List Ob) := match h[n]? with
  | some (.dic kvs) => match keyU k with
    | some key => if kvs.length < lim then some (h.set n (.dic (gPut kvs key v))) else none
    | none => match kvs with
      | [] => if keyT k then some (h.set n (.dicN n [(k, v)])) else none
      | _ => none
  | some (.dicN i kvs) => if Nat.beq i n && keyT k && Nat.blt kvs.length lim then some (h.set n (.dicN n (gPutU kvs k v))) else none
  | _ => none
/-- o[i] = v -/
def stI (o i v : Uv) (h : List Ob) : Option (List Ob) := match o with
  | .obj n => match h[n]? with
    | some (.lst xs) => match i with
      | .int k => match ixN xs.length k with
        | some j => some (h.set n (.lst (xs.set j v)))
        | none => none
      | _ => none
    | _ => putD n i v h
  | _ => none
/-- the class of an instance -/
def insC (c : Cf) (u : Uv) (h : List Ob) : Option (Nat × Nat × Nat × List (Option Uv) × Cl) := match u with
  | .obj n => match insAt n h with
    | some (d, ci, vs) => match c.cls[ci]? with
      | some k => some (n, d, ci, vs, k)
      | none => none
    | none => none
  | _ => none
/-- o.f = v -/
def stA (c : Cf) (f : Nat) (o v : Uv) (h : List Ob) : Option (List Ob) := match insC c o h with
  | some (n, d, ci, vs, k) => match lkN k.slo f with
    | some i => some ((h.set d (.dxo true)).set n (.ins n d ci true (putU i v vs)))
    | none => none
  | none => none
def okO {α : Type} (a : α) (h : Option (List Ob)) : R (α × List Ob) := match h with
  | some h => .ok (a, h)
  | none => .fail
def stepE (c : Cf) (v : Ev) (e : IE) (s : Env') (h : List Ob) : R (Uv × List Ob) := match e with
  | .var i => match s[i]? with
    | some (some (.alt us)) => .draw us.length fun j => match us[j]? with
      | some u => .ok (u, h)
      | none => .fail
    | some (some u) => .ok (u, h)
    | _ => .fail
  | .lazy e => lazyR (v.E e s h)
  | .mrg e => mrgR (v.E e s h)
  | .few k => .draw k fun r => .ok (.int (r + 1 : Nat), h)
  | .varL i => match s[i]? with
    | some (some u) => .ok (u, h)
    | _ => .fail
  | .rev e => (v.E e s h).bind fun p => match p.1 with
    | .obj n => match p.2[n]? with
      | some (.lst xs) => .ok (.obj p.2.length, p.2 ++ [.lst xs.reverse])
      | _ => .fail
    | _ => .fail
  | .dlit k w => (v.E k s (h ++ [.dic []])).bind fun p => (v.E w s p.2).bind fun q => match q.2[h.length]? with
    | some (.dic []) => match keyU p.1 with
      | some key => .ok (.obj h.length, q.2.set h.length (.dic [(key, q.1)]))
      | none => if keyT p.1 then .ok (.obj h.length, q.2.set h.length (.dicN h.length [(p.1, q.1)])) else .fail
    | _ => .fail
  | .spns e => (v.E e s h).bind fun p => match p.1 with
    | .int j => if decide (0 ≤ j) && decide (j < 10) then .ok (.obj p.2.length, p.2 ++ [.spn]) else .fail
    | _ => .fail
  | .lit u => .ok (u, h)
  | .glb j => match c.gv[j]? with
    | some u => .ok (u, h)
    | none => .fail
  | .bin o a b => (v.E a s h).bind fun p => (v.E b s p.2).bind fun q => evBin o p.1 q.1 q.2
  | .cmp o a b => (v.E a s h).bind fun p => (v.E b s p.2).bind fun q => evCmp o p.1 q.1 q.2
  | .cmp2 o o' a b d => (v.E a s h).bind fun p => (v.E b s p.2).bind fun q => (evCmp o p.1 q.1 q.2).bind fun r => match r.1 with
    | .bl true => (v.E d s r.2).bind fun w => evCmp o' q.1 w.1 w.2
    | .bl false => .ok (.bl false, r.2)
    | _ => .fail
  | .bop o es => match es with
    | [] => .fail
    | [e] => v.E e s h
    | e :: e' :: r => (v.E e s h).bind fun p => match p.1, o with
      | .bl true, .And => v.E (.bop o (e' :: r)) s p.2
      | .bl false, .And => .ok (.bl false, p.2)
      | .bl true, .Or => .ok (.bl true, p.2)
      | .bl false, .Or => v.E (.bop o (e' :: r)) s p.2
      | _, _ => .fail
  | .not a => (v.E a s h).bind fun p => match p.1 with
    | .bl b => .ok (.bl (!b), p.2)
    | _ => .fail
  | .neg a => (v.E a s h).bind fun p => match p.1 with
    | .int i => .ok (.int (-i), p.2)
    | _ => .fail
  | .ite t a b => (v.T t s h).bind fun p => match p.1 with
    | true => v.E a s p.2
    | false => v.E b s p.2
  | .tup es => (v.Es es s h).bind fun p => if p.1.length ≤ lim then .ok (.tup p.1, p.2) else .fail
  | .lst es => (v.Es es s h).bind fun p => if p.1.length ≤ lim then .ok (.obj p.2.length, p.2 ++ [.lst p.1]) else .fail
  | .star _ => .fail
  | .sub a i => (v.E a s h).bind fun p => (v.E i s p.2).bind fun q => evSub p.1 q.1 q.2
  | .slc a lo hi => (v.E a s h).bind fun p => (optE v lo s p.2).bind fun q => (optE v hi s q.2).bind fun r => evSlc p.1 q.1 r.1 r.2
  | .call f es => (v.Es es s h).bind fun p => (c.call f p.1 p.2).here s
  | .callk f n es k => (v.Es es s h).bind fun p => (v.E k s p.2).bind fun q => if p.1.length = n then (c.call f (p.1 ++ [q.1]) q.2).here s else .fail
  | .callv i es => match s[i]? with
    | some (some (.glb f)) => if c.has f then (v.Es es s h).bind fun p => (c.call f p.1 p.2).here s else .fail
    | some (some (.obj n)) => match lamAt n h with
      | some _ => (v.Es es s h).bind fun p => match lamAt n p.2 with
        | some j => (c.call j p.1 p.2).here s
        | none => .fail
      | none => .fail
    | _ => .fail
  | .lamv j => .ok (.obj h.length, h ++ [.lam h.length j])
  | .calld f es ds => (v.Es es s h).bind fun p => (c.call f (p.1 ++ ds) p.2).here s
  | .callvk i es y k => match s[i]? with
    | some (some (.glb f)) => match kwN c.kws f with
      | some p => if p.2 = y then (v.Es es s h).bind fun a => (v.E k s a.2).bind fun q => if a.1.length = p.1 then (c.call f (a.1 ++ [q.1]) q.2).here s else .fail else .fail
      | none => .fail
    | _ => .fail
  | .bi b es => (v.Es es s h).bind fun p => evBi b p.1 p.2
  | .isi a t => (v.E a s h).bind fun p => match tyU p.1 p.2 with
    | some ty => match kitT ty t with
      | some b => .ok (.bl b, p.2)
      | none => .fail
    | none => .fail
  | .met m o es => (v.E o s h).bind fun p => if metTy m p.1 p.2 then (v.Es es s p.2).bind fun q => evMet m p.1 q.1 q.2 else .fail
  | .lc e t it ifs own => (v.I it s h).bind fun p => ((v.L e t ifs p.1 p.2.length 0 (wipeE s own) (p.2 ++ [.lst []])).calm).bind fun q => .ok (.obj p.2.length, q.2)
  | .dc k w t it ifs own => (v.I it s h).bind fun p => ((v.Dc k w t ifs p.1 p.2.length 0 (wipeE s own) (p.2 ++ [.dic []])).calm).bind fun q => .ok (.obj p.2.length, q.2)
  | .dnil => .ok (.obj h.length, h ++ [.dic []])
  | .att f a => (v.E a s h).bind fun p => match insC c p.1 p.2 with
    | some (n, _, _, vs, k) => match lkN k.slo f with
      | some i => match vs[i]? with
        | some (some u) => .ok (u, p.2)
        | _ => .fail
      | none => match lkN k.prp f with
        | some d => (c.call d [.obj n] p.2).here s
        | none => .fail
    | none => .fail
  | .metc m o es => (v.E o s h).bind fun p => match insC c p.1 p.2 with
    | some (n, _, _, _, k) => match lkN k.mts m with
      | some d => (v.Es es s p.2).bind fun q => (c.call d (.obj n :: q.1) q.2).here s
      | none => .fail
    | none => .fail
  | .new ci f es => (v.Es es s h).bind fun p => ((c.call f (.obj (p.2.length + 1) :: p.1) (p.2 ++ [.dxo false] ++ [.ins (p.2.length + 1) p.2.length ci false []])).here s).bind fun q => match q.1 with
    | .non => .ok (.obj (p.2.length + 1), q.2)
    | _ => .fail
  | .lc2 e t it ifs t2 it2 ifs2 own own2 => (v.I it s h).bind fun p => ((v.L2 e t ifs t2 it2 ifs2 own2 p.1 p.2.length 0 (wipeE s own) (p.2 ++ [.lst []])).calm).bind fun q => .ok (.obj p.2.length, q.2)
  | .dc2 k w t it ifs t2 it2 ifs2 own own2 => (v.I it s h).bind fun p => ((v.D2 k w t ifs t2 it2 ifs2 own2 p.1 p.2.length 0 (wipeE s own) (p.2 ++ [.dic []])).calm).bind fun q => .ok (.obj p.2.length, q.2)
  | .thk f e => c.thunk f (fun h => v.E e s h) h
  | .act => (c.act h).here s
  | .fld f => match c.fs.lookup f with
    | some u => .ok (u, h)
    | none => .fail
def stepEs (v : Ev) (es : List IE) (s : Env') (h : List Ob) : R (List Uv × List Ob) := match es with
  | [] => .ok ([], h)
  | .star e :: r => (v.E e s h).bind fun p => match itemsD p.1 p.2 with
    | some us => (v.Es r s p.2).bind fun q => .ok (us ++ q.1, q.2)
    | none => .fail
  | e :: r => (v.E e s h).bind fun p => (v.Es r s p.2).bind fun q => .ok (p.1 :: q.1, q.2)
def stepT (v : Ev) (e : IE) (s : Env') (h : List Ob) : R (Bool × List Ob) := match e with
  | .not a => (v.T a s h).bind fun p => .ok (!p.1, p.2)
  | .bop o es => match es with
    | [] => .fail
    | [e] => v.T e s h
    | e :: e' :: r => (v.T e s h).bind fun p => match p.1, o with
      | true, .And => v.T (.bop o (e' :: r)) s p.2
      | false, .And => .ok (false, p.2)
      | true, .Or => .ok (true, p.2)
      | false, .Or => v.T (.bop o (e' :: r)) s p.2
  | .ite .. => .fail
  | .cmp .. => (v.E e s h).bind fun p => match p.1 with
    | .bl b => .ok (b, p.2)
    | _ => .fail
  | .cmp2 .. => (v.E e s h).bind fun p => match p.1 with
    | .bl b => .ok (b, p.2)
    | _ => .fail
  | e => (v.E e s h).bind fun p => match truU p.1 p.2 with
    | some b => .ok (b, p.2)
    | none => .fail
def stepTs (v : Ev) (es : List IE) (s : Env') (h : List Ob) : R (Bool × List Ob) := match es with
  | [] => .ok (true, h)
  | [e] => v.T e s h
  | _ => .fail
/-- a dict that a loop is to go over -/
def lockU (u : Uv) (h : List Ob) (f : Nat → Rn) : R (Rn × List Ob) := match u with
  | .obj n => match h[n]? with
    | some (.dicL _) => .ok (f n, h)
    | some (.dic kvs) => .ok (f n, h.set n (.dicL kvs))
    | _ => .fail
  | _ => .fail
def stepI (v : Ev) (e : II) (s : Env') (h : List Ob) : R (Rn × List Ob) := match e with
  | .seq e => (v.E e s h).bind fun p => match p.1 with
    | .tup xs => .ok (.tup xs, p.2)
    | .str x => .ok (.str x, p.2)
    | .obj n => match p.2[n]? with
      | some (.lst _) => .ok (.lst n, p.2)
      | _ => .fail
    | _ => .fail
  | .rng1 a => (v.E a s h).bind fun p => match p.1 with
    | .int j => if decide (-(2 ^ 62) ≤ j) && decide (j < 2 ^ 62) then .ok (.rng 0 j.toNat, p.2) else .fail
    | _ => .fail
  | .rng2 a b => (v.E a s h).bind fun p => (v.E b s p.2).bind fun q => match p.1, q.1 with
    | .int i, .int j => if decide (-(2 ^ 62) ≤ i) && decide (i < 2 ^ 62) && decide (-(2 ^ 62) ≤ j) && decide (j < 2 ^ 62) then .ok (.rng i (j - i).toNat, q.2) else .fail
    | _, _ => .fail
  | .enm e => (v.E e s h).bind fun p => match p.1 with
    | .tup xs => .ok (.enT xs, p.2)
    | .obj n => match p.2[n]? with
      | some (.lst _) => .ok (.enL n, p.2)
      | _ => .fail
    | _ => .fail
  | .rng3 a b d => (v.E a s h).bind fun p => (v.E b s p.2).bind fun q => (v.E d s q.2).bind fun r => match p.1, q.1, r.1 with
    | .int i, .int j, .int (-1) => if decide (-(2 ^ 62) ≤ i) && decide (i < 2 ^ 62) && decide (-(2 ^ 62) ≤ j) && decide (j < 2 ^ 62) then .ok (.rngC i (-1) (i - j).toNat, r.2) else .fail
    | _, _, _ => .fail
  | .keys e => (v.E e s h).bind fun p => lockU p.1 p.2 .keys
  | .itms e => (v.E e s h).bind fun p => lockU p.1 p.2 .itms
  | .zp a b => (v.E a s h).bind fun p => (v.E b s p.2).bind fun q => match p.1, q.1 with
    | .tup xs, .tup ys => .ok (.zT xs ys, q.2)
    | .obj n, .obj k => match q.2[n]?, q.2[k]? with
      | some (.lst _), some (.lst _) => .ok (.zL n k, q.2)
      | _, _ => .fail
    | .obj n, .tup ys => match q.2[n]? with
      | some (.lst _) => .ok (.zLT n ys, q.2)
      | _ => .fail
    | .tup xs, .obj k => match q.2[k]? with
      | some (.lst _) => .ok (.zTL xs k, q.2)
      | _ => .fail
    | _, _ => .fail
  | .zpN a b => (v.E a s h).bind fun p => (v.E b s p.2).bind fun q => match p.1, q.1 with
    | .obj n, .obj k => match q.2[n]?, q.2[k]? with
      | some (.lst _), some (.lst _) => .ok (.zL n k, q.2)
      | _, _ => .fail
    | _, _ => .fail
def stepL (v : Ev) (e : IE) (t : IT) (ifs : List IE) (r : Rn) (d i : Nat) (s : Env') (h : List Ob) : R (Unit × List Ob) := match r.at h i with
  | none => .fail
  | some none => .ok ((), h)
  | some (some u) => match setT 10 t u s with
    | none => .fail
    | some s' => (v.Ts ifs s' h).bind fun p => match p.1 with
      | false => v.L e t ifs r d (i + 1) s p.2
      | true => (v.E e s' p.2).bind fun q => match q.2[d]? with
        | some (.lst acc) => if acc.length < lim then v.L e t ifs r d (i + 1) s (q.2.set d (.lst (acc ++ [q.1]))) else .fail
        | _ => .fail
def stepDc (v : Ev) (k w : IE) (t : IT) (ifs : List IE) (r : Rn) (d i : Nat) (s : Env') (h : List Ob) : R (Unit × List Ob) := match r.at h i with
  | none => .fail
  | some none => .ok ((), h)
  | some (some u) => match setT 10 t u s with
    | none => .fail
    | some s' => (v.Ts ifs s' h).bind fun p => match p.1 with
      | false => v.Dc k w t ifs r d (i + 1) s p.2
      | true => (v.E k s' p.2).bind fun q => (v.E w s' q.2).bind fun x => match putD d q.1 x.1 x.2 with
        | some h' => v.Dc k w t ifs r d (i + 1) s h'
        | none => .fail
def stepL2 (v : Ev) (e : IE) (t : IT) (ifs : List IE) (t2 : IT) (it2 : II) (ifs2 : List IE) (own2 : List Nat) (r : Rn) (d i : Nat) (s : Env') (h : List Ob) : R (Unit × List Ob) := match r.at h i with
  | none => .fail
  | some none => .ok ((), h)
  | some (some u) => match setT 10 t u s with
    | none => .fail
    | some s' => (v.Ts ifs s' h).bind fun p => match p.1 with
      | false => v.L2 e t ifs t2 it2 ifs2 own2 r d (i + 1) s p.2
      | true => (v.I it2 s' p.2).bind fun q => (v.L e t2 ifs2 q.1 d 0 (wipeE s' own2) q.2).bind fun x => v.L2 e t ifs t2 it2 ifs2 own2 r d (i + 1) s x.2
def stepD2 (v : Ev) (k w : IE) (t : IT) (ifs : List IE) (t2 : IT) (it2 : II) (ifs2 : List IE) (own2 : List Nat) (r : Rn) (d i : Nat) (s : Env') (h : List Ob) : R (Unit × List Ob) := match r.at h i with
  | none => .fail
  | some none => .ok ((), h)
  | some (some u) => match setT 10 t u s with
    | none => .fail
    | some s' => (v.Ts ifs s' h).bind fun p => match p.1 with
      | false => v.D2 k w t ifs t2 it2 ifs2 own2 r d (i + 1) s p.2
      | true => (v.I it2 s' p.2).bind fun q => (v.Dc k w t2 ifs2 q.1 d 0 (wipeE s' own2) q.2).bind fun x => v.D2 k w t ifs t2 it2 ifs2 own2 r d (i + 1) s x.2
def retOnly (p : Fl × List Ob) : R (Fl × List Ob) := match p.1 with
  | .rt u => .ok (.rt u, p.2)
  | _ => .fail
def handle (c : Cf) (body : List (Str × Uv) → List IS → Env' → List Ob → R (Fl × List Ob)) (hs : List IH) (k : Nat) (fs : List (Str × Uv)) (s : Env') (h : List Ob) : R (Fl × List Ob) := match hs with
  | [] => .exc k fs s h
  | .mk j none b :: r => if c.sup k j then ((body [] b s h).calm).bind retOnly else handle c body r k fs s h
  | .mk j (some n) b :: r => if c.sup k j then (if fs.all (fun p => c.fld k p.1) && Nat.blt n s.length then ((body fs b (s.set n none) h).calm).bind retOnly else .fail) else handle c body r k fs s h
/-- choices that were kept open are made -/
def pinR (f : Env' → R (Fl × List Ob)) : List Nat → Env' → R (Fl × List Ob)
  | [], s => f s
  | i :: is, s => match s[i]? with
    | some (some (.alt us)) => .draw us.length fun j => match us[j]? with
      | some u => pinR f is (s.set i (some u))
      | none => .fail
    | _ => pinR f is s
/-- a locked dict is let free -/
def unlk (n : Nat) : R (Fl × List Ob) → R (Fl × List Ob)
  | .ok (f, h) => match h[n]? with
    | some (.dicL kvs) => .ok (f, h.set n (.dic kvs))
    | _ => .fail
  | .exc c fs s h => .exc c fs s h
  | .draw k f => .draw k fun i => unlk n (f i)
  | .fail => .fail
/-- stores into several targets, one after another -/
def stepM (c : Cf) (v : Ev) : List TGt → List Uv → Env' → List Ob → R (Env' × List Ob)
  | [], [], s, h => .ok (s, h)
  | .nm t :: r, u :: us, s, h => match setT 10 t u s with
    | some s' => stepM c v r us s' h
    | none => .fail
  | .at_ f o :: r, u :: us, s, h => (v.E o s h).bind fun p => match stA c f p.1 u p.2 with
    | some h' => stepM c v r us s h'
    | none => .fail
  | .sub o i :: r, u :: us, s, h => (v.E o s h).bind fun p => (v.E i s p.2).bind fun q => match stI p.1 q.1 u q.2 with
    | some h' => stepM c v r us s h'
    | none => .fail
  | _, _, _, _ => .fail
def stepS (c : Cf) (v : Ev) (hb : List (Str × Uv) → List IS → Env' → List Ob → R (Fl × List Ob)) (st : IS) (s : Env') (h : List Ob) : R (Fl × List Ob) := match st with
  | .ex e => (v.E e s h).bind fun p => .ok (.nx s, p.2)
  | .asg t e => (v.E e s h).bind fun p => match setT 10 t p.1 s with
    | some s' => .ok (.nx s', p.2)
    | none => .fail
  | .par is es => (v.Es es s h).bind fun p => if p.1.length = is.length then .ok (.nx (setAll is p.1 s), p.2) else .fail
  | .put o i w => (v.E w s h).bind fun p => (v.E o s p.2).bind fun q => (v.E i s q.2).bind fun r => okO (.nx s) (stI q.1 r.1 p.1 r.2)
  | .putA f o w => (v.E w s h).bind fun p => (v.E o s p.2).bind fun q => okO (.nx s) (stA c f q.1 p.1 q.2)
  | .asgM ts e => (v.E e s h).bind fun p => match p.1 with
    | .tup us => if Nat.beq us.length ts.length then (stepM c v ts us s p.2).bind fun q => .ok (.nx q.1, q.2) else .fail
    | _ => .fail
  | .aug i o e => match s[i]? with
    | some (some (.int a)) => (v.E e s h).bind fun p => match p.1, o with
      | .int b, .Add => .ok (.nx (s.set i (some (.int (a + b)))), p.2)
      | .int b, .Sub => .ok (.nx (s.set i (some (.int (a - b)))), p.2)
      | _, _ => .fail
    | _ => .fail
  | .ret e => (v.E e s h).bind fun p => .ok (.rt p.1, p.2)
  | .retN => .ok (.rt .non, h)
  | .ite t a b => (v.T t s h).bind fun p => match p.1 with
    | true => v.Ss a s p.2
    | false => v.Ss b s p.2
  | .forI t it b => (v.I it s h).bind fun p => v.F t b p.1 0 s p.2
  | .whl t b => v.Wh t b s h
  | .rais k f e => (v.E e s h).bind fun p => .exc k (match f with | none => [] | some x => [(x, p.1)]) s p.2
  | .tryS b hs => (v.Ss b s h).catch fun k fs s' h' => if k < c.ncl then handle c hb hs k fs s' h' else .fail
  | .bad => .fail
  | .pin is st => pinR (fun s => v.S st s h) is s
  | .lock i st => match s[i]? with
    | some (some (.obj n)) => match h[n]? with
      | some (.dic kvs) => unlk n (v.S st s (h.set n (.dicL kvs)))
      | _ => .fail
    | _ => .fail
  | .pass => .ok (.nx s, h)
  | .brk => .ok (.bk s, h)
  | .cnt => .ok (.ct s, h)
def stepSs (v : Ev) (st : List IS) (s : Env') (h : List Ob) : R (Fl × List Ob) := match st with
  | [] => .ok (.nx s, h)
  | a :: r => (v.S a s h).bind fun p => match p.1 with
    | .nx s' => v.Ss r s' p.2
    | f => .ok (f, p.2)
def stepF (v : Ev) (t : IT) (b : List IS) (r : Rn) (i : Nat) (s : Env') (h : List Ob) : R (Fl × List Ob) := match r.at h i with
  | none => .fail
  | some none => .ok (.nx s, h)
  | some (some u) => match setT 10 t u s with
    | none => .fail
    | some s' => (v.Ss b s' h).bind fun p => match p.1 with
      | .nx s2 => v.F t b r (i + 1) s2 p.2
      | .ct s2 => v.F t b r (i + 1) s2 p.2
      | .bk s2 => .ok (.nx s2, p.2)
      | .rt u => .ok (.rt u, p.2)
def stepWh (v : Ev) (t : IE) (b : List IS) (s : Env') (h : List Ob) : R (Fl × List Ob) := (v.T t s h).bind fun q => match q.1 with
  | false => .ok (.nx s, q.2)
  | true => (v.Ss b s q.2).bind fun p => match p.1 with
    | .nx s2 => v.Wh t b s2 p.2
    | .ct s2 => v.Wh t b s2 p.2
    | .bk s2 => .ok (.nx s2, p.2)
    | .rt u => .ok (.rt u, p.2)
def Ev.none : Ev := ⟨fun _ _ _ => .fail, fun _ _ _ => .fail, fun _ _ _ => .fail, fun _ _ _ => .fail, fun _ _ _ => .fail, fun _ _ _ _ _ _ _ _ => .fail, fun _ _ _ _ _ _ _ _ _ => .fail, fun _ _ _ _ _ _ _ _ _ _ _ _ => .fail, fun _ _ _ _ _ _ _ _ _ _ _ _ _ => .fail, fun _ _ _ => .fail, fun _ _ _ => .fail, fun _ _ _ _ _ _ => .fail, fun _ _ _ _ => .fail⟩
def Ev.step (c : Cf) (hb : List (Str × Uv) → List IS → Env' → List Ob → R (Fl × List Ob)) (v : Ev) : Ev :=
  ⟨stepE c v, stepEs v, stepT v, stepTs v, stepI v, stepL v, stepDc v, stepL2 v, stepD2 v, stepS c v hb, stepSs v, stepF v, stepWh v⟩
def evN (c : Cf) (hb : List (Str × Uv) → List IS → Env' → List Ob → R (Fl × List Ob)) : Nat → Ev
  | 0 => Ev.none
  | n + 1 => Ev.step c hb (evN c hb n)
end Rf
set_option maxHeartbeats 2000000
namespace Rf
open PySem PySem.Spec PyProof.Rows L2
/-! ### programs -/
mutual
def Uv.under (n : Nat) : Uv → Bool
  | .tup xs => Uv.unders n xs
  | .obj k => Nat.blt k n
  | .alt xs => Uv.unders n xs
  | _ => true
def Uv.unders (n : Nat) : List Uv → Bool
  | [] => true
  | u :: r => u.under n && Uv.unders n r
end
def Ob.under (n : Nat) : Ob → Bool
  | .lst xs => Uv.unders n xs
  | .dic kvs => kvs.all fun p => p.2.under n
  | .dicL kvs => kvs.all fun p => p.2.under n
  | .spn => true
  | .ins i d _ _ vs => Nat.blt i n && Nat.blt d n && vs.all fun o => match o with
    | none => true
    | some u => u.under n
  | .dxo _ => true
  | .dicN i kvs => Nat.blt i n && kvs.all fun p => p.1.under n && p.2.under n
  | .lam i _ => Nat.blt i n
/-- what a call made and nobody holds is dropped -/
def gc (n : Nat) (u : Uv) (h : List Ob) : List Ob := if u.under n && (h.take n).all (Ob.under n) then h.take n else h
def R.close (n : Nat) : R (Fl × List Ob) → R (Uv × List Ob)
  | .ok (.rt u, h) => .ok (u, gc n u h)
  | .ok (.nx _, h) => .ok (.non, gc n .non h)
  | .ok _ => .fail
  | .exc c fs _ h => .exc c fs [] (gc n (.tup (fs.map (·.2))) h)
  | .draw k f => .draw k fun i => (f i).close n
  | .fail => .fail
/-- what a call with known arguments is known to give -/
inductive Mr where
  | ok (u : Uv) | exc (c : Nat) (fs : List (Str × Uv))
def Mr.give (r : Mr) (h : List Ob) : R (Uv × List Ob) := match r with
  | .ok u => .ok (u, h)
  | .exc c fs => .exc c fs [] h
abbrev Mem := List (List Uv × Nat × Mr)
def memo (es : Mem) (us : List Uv) : Option (Nat × Mr) := match es with
  | [] => none
  | (vs, r) :: t => match eqUs vs us with
    | true => some r
    | false => memo t us
inductive Df where
  | code (np ns : Nat) (body : List IS)
  | memo (np ns : Nat) (body : List IS) (es : Mem)
  | spin
  | yes (lo : Nat)
structure Pr where
  defs : List Df
  gv : List Uv
  sup : Nat → Nat → Bool
  fld : Nat → Str → Bool
  ncl : Nat
  npos : Nat
  cls : List Cl := []
  kws : List (Nat × (Nat × Str)) := []
@[irreducible] def big : Nat := 1000000
def Pr.cf (P : Pr) (cl : Nat → List Uv → List Ob → R (Uv × List Ob)) (th : Nat → (List Ob → R (Uv × List Ob)) → List Ob → R (Uv × List Ob)) (ac : List Ob → R (Uv × List Ob)) (fs : List (Str × Uv)) : Cf := ⟨cl, th, P.gv, P.sup, ac, fs, fun f => Nat.blt f P.npos, P.fld, P.ncl, P.cls, P.kws⟩
def noHb : List (Str × Uv) → List IS → Env' → List Ob → R (Fl × List Ob) := fun _ _ _ _ => .fail
def hbF (c : List (Str × Uv) → Cf) (fs : List (Str × Uv)) (b : List IS) : Env' → List Ob → R (Fl × List Ob) := (evN (c fs) noHb big).Ss b
def start' (ns : Nat) (us : List Uv) : Env' := us.map some ++ List.replicate (ns - us.length) none
def noAct : List Ob → R (Uv × List Ob) := fun _ => .fail
def noThunk : Nat → (List Ob → R (Uv × List Ob)) → List Ob → R (Uv × List Ob) := fun _ _ _ => .fail
def runB (c : List (Str × Uv) → Cf) (np ns : Nat) (body : List IS) (us : List Uv) (h : List Ob) : R (Uv × List Ob) :=
  if us.length = np then ((evN (c []) (hbF c) big).Ss body (start' ns us) h).close h.length else .fail
def thunkF (P : Pr) (cl : Nat → List Uv → List Ob → R (Uv × List Ob)) (f : Nat) (ac : List Ob → R (Uv × List Ob)) (h : List Ob) : R (Uv × List Ob) := match P.defs[f]? with
  | some (.code 1 ns body) => ((evN (P.cf cl noThunk ac []) (hbF (P.cf cl noThunk ac)) big).Ss body (none :: List.replicate (ns - 1) none) h).close h.length |>.calm
  | _ => .fail
def callF (P : Pr) : Nat → Nat → List Uv → List Ob → R (Uv × List Ob)
  | 0, _, _, _ => .fail
  | k + 1, f, us, h => match P.defs[f]? with
    | some (.code np ns body) => runB (P.cf (callF P k) (thunkF P (callF P k)) noAct) np ns body us h
    | some (.memo np ns body es) => match memo es us with
      | some (lo, r) => if lo ≤ k then r.give h else .fail
      | none => runB (P.cf (callF P k) (thunkF P (callF P k)) noAct) np ns body us h
    | some .spin => match us with
      | [.obj n, .int t] => match h[n]? with
        | some .spn => if decide (0 < t) && decide (t < 1073741824) then .draw t.toNat fun r => .ok (.int r, h) else .fail
        | _ => .fail
      | _ => .fail
    | some (.yes lo) => match us with
      | [.obj n] => match h[n]? with
        | some .spn => if lo ≤ k then .ok (.bl true, h) else .fail
        | _ => .fail
      | _ => .fail
    | none => .fail
end Rf
set_option maxHeartbeats 4000000
namespace Rf
open PySem PySem.Spec PyProof.Rows L2
theorem lim_le {n : Nat} (h : n ≤ lim) : n ≤ sizeLine := Nat.le_trans h (by decide)
theorem lim_lt {n : Nat} (h : n < lim) : n < sizeLine := Nat.lt_of_lt_of_le h (by decide)
abbrev VPost (g : Gs) (Q : VK) : Uv → List Ob → List Addr → Hp → Prop := fun u _ m' H' => ∀ v, VR g m' H' u v → Q v H'
section
variable {g : Gs} {W : WX} {m : List Addr} {H : Hp} {h : List Ob} {Q : VK}
theorem alloc_ok {p : Addr} {u : Ob} {ho : HO} (hr : HR g m H h) (s : Sat g W m H (.ok (.obj h.length, h ++ [u])) (VPost g Q)) (hp : H p = none) (hu : OR g m H u ho) : Q (.ref p) (upd H p ho) :=
  s (m ++ [p]) _ (Le.alloc hr hp) (hr.alloc hp hu) _ ⟨p, rfl, by rw [hr.len, List.getElem?_append_right (Nat.le_refl _), Nat.sub_self] <;> rfl⟩
theorem tup_ok {p : Addr} {xs : List Uv} {ys : List V} (hr : HR g m H h) (s : Sat g W m H (.ok (.tup xs, h)) (VPost g Q)) (hp : H p = none) (hx : VRs g m H xs ys) : Q (.ref p) (upd H p (.tup ys)) :=
  s m _ (Le.put hp) (hr.put hp) _ ⟨p, ys, rfl, .inl (.inl upd_same), VRs.mono (Le.put hp) _ _ hx⟩
theorem same_ok {x : Uv} {v : V} (hr : HR g m H h) (s : Sat g W m H (.ok (x, h)) (VPost g Q)) (hx : VR g m H x v) : Q v H := s.ok0 hr v hx
theorem set_okV {n : Nat} {p : Addr} {u u' : Ob} {ho : HO} {x : Uv} {v : V} (hr : HR g m H h) (s : Sat g W m H (.ok (x, h.set n u')) (VPost g Q)) (hn : m[n]? = some p) (hu : h[n]? = some u) (hu' : OR g m H u' ho) (hx : VR g m H x v) (nl : u.lk = false := by rfl) : Q v (upd H p ho) :=
  s m _ (Le.set hr hn hu nl) (hr.set hn hu hu' nl) v (VR.mono (Le.set hr hn hu nl) _ _ hx)
theorem ite_sat {α : Type} {c : Prop} [Decidable c] {a : R (α × List Ob)} {P : α → List Ob → List Addr → Hp → Prop} (s : Sat g W m H (if c then a else .fail) P) : c ∧ Sat g W m H a P := by
  by_cases hc : c
  · rw [if_pos hc] at s; exact ⟨hc, s⟩
  · rw [if_neg hc] at s; exact s.no.elim
theorem ite_satb {α : Type} {c : Bool} {a : R (α × List Ob)} {P : α → List Ob → List Addr → Hp → Prop} (s : Sat g W m H (if c = true then a else .fail) P) : c = true ∧ Sat g W m H a P := ite_sat s
theorem ite_satn {α : Type} {c : Prop} [Decidable c] {a : R (α × List Ob)} {P : α → List Ob → List Addr → Hp → Prop} (s : Sat g W m H (if c then .fail else a) P) : ¬ c ∧ Sat g W m H a P := by
  by_cases hc : c
  · rw [if_pos hc] at s; exact s.no.elim
  · rw [if_neg hc] at s; exact ⟨hc, s⟩
theorem VRs.nil_iff {xs : List Uv} {ys : List V} (r : VRs g m H xs ys) : xs = [] ↔ ys = [] := by
  have l := r.length
  constructor
  · intro e; subst e; exact List.length_eq_zero_iff.mp l.symm
  · intro e; subst e; exact List.length_eq_zero_iff.mp l

/-! ### + - * % // ** -/
def rAddA (K : PySem.W.Frag) : R2 := fun x y H Q => (rI0 fun i j => .int (i + j)) x y H Q ∨ (∃ i j, x = .str i ∧ y = .str j ∧ i.length + j.length ≤ sizeLine ∧ Q (.str (i ++ j)) H) ∨ rCat x y H Q ∨ rCatA K x y H Q
def rMulA (K : PySem.W.Frag) : R2 := fun x y H Q => (rI CMul fun i j => .int (i * j)) x y H Q ∨ rRep x y H Q
def rNo : R2 := fun _ _ _ _ => False
def CPowB (i j : Int) : Prop := 0 ≤ j ∧ (Builtin.Int.intBits i : Int) * j ≤ 2 ^ 27
def rBin (K : PySem.W.Frag) : Operator → R2
  | .Add => rAddA K
  | .Sub => rI0 fun i j => .int (i - j)
  | .Mult => rMulA K
  | .Mod => rI (fun _ j => j ≠ 0) fun i j => .int (i.fmod j)
  | .FloorDiv => rI CDivN fun i j => .int (i.fdiv j)
  | .Pow => rI CPowB fun i j => .int (i ^ j.toNat)
  | _ => rNo
theorem op_no {X : Cx} {f : Value → Value → Sem Value} : OpR X f rNo := fun _ _ _ _ _ _ _ _ _ _ _ _ h => h.elim
theorem op_bin {X : Cx} : ∀ o, OpR X (binaryOp o) (rBin X.K o)
  | .Add => op_add.or (op_add_str.or (op_cat.or op_catA))
  | .Sub => op_sub
  | .Mult => op_mul.or op_rep
  | .Mod => op_modN
  | .FloorDiv => op_fdivN
  | .Pow => opI fun _ _ _ _ _ _ _ hc q => pow_int hc.1 hc.2 q
  | .MatMult => op_no | .Div => op_no | .LShift => op_no | .RShift => op_no | .BitOr => op_no | .BitXor => op_no | .BitAnd => op_no
theorem bin_ok {o : Operator} {x y : Uv} {a b : V} (hr : HR g m H h) (rx : VR g m H x a) (ry : VR g m H y b) (s : Sat g W m H (evBin o x y h) (VPost g Q)) : rBin g.K o a b H Q := by
  unfold evBin at s
  split at s
  · cases rx; cases ry
    exact .inl ⟨_, _, rfl, rfl, same_ok hr s rfl⟩
  · cases rx; cases ry
    exact ⟨_, _, rfl, rfl, same_ok hr s rfl⟩
  · cases rx; cases ry
    obtain ⟨c, s⟩ := ite_satb s
    rw [Bool.and_eq_true, decide_eq_true_eq, decide_eq_true_eq] at c
    exact .inl ⟨_, _, rfl, rfl, .inl c, same_ok hr s rfl⟩
  · cases rx; cases ry
    obtain ⟨c, s⟩ := ite_satn s
    exact ⟨_, _, rfl, rfl, c, same_ok hr s rfl⟩
  · cases rx; cases ry
    obtain ⟨c, s⟩ := ite_satb s
    rw [Bool.and_eq_true, decide_eq_true_eq, decide_eq_true_eq] at c
    exact ⟨_, _, rfl, rfl, c, same_ok hr s rfl⟩
  · cases rx; cases ry
    obtain ⟨c, s⟩ := ite_satb s
    rw [Bool.and_eq_true, decide_eq_true_eq, decide_eq_true_eq] at c
    exact ⟨_, _, rfl, rfl, c, same_ok hr s rfl⟩
  · cases rx; cases ry
    obtain ⟨c, s⟩ := ite_sat s
    exact .inr (.inl ⟨_, _, rfl, rfl, lim_le c, same_ok hr s rfl⟩)
  · obtain ⟨p, ys, rfl, hp, hx⟩ := rx
    obtain ⟨q, zs, rfl, hq, hz⟩ := ry
    obtain ⟨c0, s⟩ := ite_satn s
    obtain ⟨c, s⟩ := ite_sat s
    refine .inr (.inr (.inr ⟨p, q, ys, zs, rfl, rfl, hp, hq, by rw [← hx.length, ← hz.length]; exact lim_le c, fun e => ?_, fun e0 e => ?_, fun e0 e p' hp' => ?_⟩))
    · exact absurd (by rw [hx.nil_iff.mpr e] <;> rfl) c0
    · refine same_ok hr s ⟨p, ys, rfl, hp, ?_⟩
      rw [hz.nil_iff.mpr e, List.append_nil]
      exact hx
    · exact tup_ok hr s hp' (hx.append hz)
  · split at s
    · rename_i e1 e2
      obtain ⟨p, ys, rfl, n1, k1, hx⟩ := hr.getL rx e1
      obtain ⟨q, zs, rfl, n2, k2, hz⟩ := hr.getL ry e2
      obtain ⟨c, s⟩ := ite_sat s
      exact .inr (.inr (.inl ⟨p, q, ys, zs, rfl, rfl, k1, k2, by rw [← hx.length, ← hz.length]; exact lim_le c, fun p' hp' => alloc_ok hr s hp' ⟨_, rfl, hx.append hz⟩⟩))
    · exact s.no.elim
  · split at s
    · rename_i e1
      cases ry
      obtain ⟨p, ys, rfl, n1, k1, hx⟩ := hr.getL rx e1
      obtain ⟨c, s⟩ := ite_satb s
      rw [Bool.and_eq_true, Bool.and_eq_true, decide_eq_true_eq, decide_eq_true_eq, decide_eq_true_eq] at c
      exact .inr ⟨p, _, ys, rfl, rfl, k1, by omega, c.1.2, by rw [← hx.length]; exact lim_le c.2, fun p' hp' => alloc_ok hr s hp' ⟨_, rfl, hx.rep _⟩⟩
    · exact s.no.elim
  · exact s.no.elim

/-! ### plain data -/
mutual
theorem toD_ok (hr : HR g m H h) : ∀ (n : Nat) (u : Uv) (v : V) (d : PyData), VR g m H u v → toD n h u = some d → Dp g.K H v d
  | 0, _, _, _, _, e => by simp [toD] at e
  | n + 1, u, v, d, r, e => by
    cases u with
    | non => cases r; simp [toD] at e; subst e; exact .non
    | bl b => cases r; simp [toD] at e; subst e; exact .bl b
    | int i => cases r; simp [toD] at e; subst e; exact .int i
    | str x => cases r; simp [toD] at e; subst e; exact .str x
    | ty x => simp [toD] at e
    | glb x => simp [toD] at e
    | alt x => simp [toD] at e
    | tup xs =>
      obtain ⟨p, ys, rfl, hp, hx⟩ := r
      simp only [toD] at e
      cases e1 : toDs n h xs with
      | none => rw [e1] at e; cases e
      | some ds =>
        rw [e1] at e
        cases e
        exact .tup hp (toDs_ok hr n xs ys ds hx e1)
    | obj k =>
      simp only [toD] at e
      split at e
      · rename_i xs e0
        obtain ⟨p, ys, rfl, n1, k1, hx⟩ := hr.getL r e0
        cases e1 : toDs n h xs with
        | none => rw [e1] at e; cases e
        | some ds =>
          rw [e1] at e
          cases e
          exact .lst (SqL.of k1) (toDs_ok hr n xs ys ds hx e1)
      · cases e
theorem toDs_ok (hr : HR g m H h) : ∀ (n : Nat) (us : List Uv) (vs : List V) (ds : List PyData), VRs g m H us vs → toDs n h us = some ds → DpAll g.K H vs ds
  | 0, _, _, _, _, e => by simp [toDs] at e
  | n + 1, [], _, _, r, e => by
    simp [toDs] at e
    subst e
    rw [show _ = [] from r]
    exact .nil
  | n + 1, u :: us, _, ds, r, e => by
    obtain ⟨y, t, rfl, a, b⟩ := r
    simp only [toDs] at e
    cases e1 : toD n h u with
    | none => rw [e1] at e; cases e
    | some d =>
      rw [e1] at e
      cases e2 : toDs n h us with
      | none => rw [e2] at e; cases e
      | some dr =>
        rw [e2] at e
        cases e
        exact .cons (toD_ok hr n u y d a e1) (toDs_ok hr n us t dr b e2)
end
theorem both_ok {x y : Uv} {a b : V} {f : PyData → PyData → Bool} (hr : HR g m H h) (rx : VR g m H x a) (ry : VR g m H y b) (s : Sat g W m H (bothD x y h f) (VPost g Q)) :
    ∃ d e, Dp g.K H a d ∧ Dp g.K H b e ∧ SeqAt.shaped d = true ∧ SeqAt.shaped e = true ∧ Q (.bl (f d e)) H := by
  unfold bothD at s
  split at s
  · rename_i d e e1 e2
    obtain ⟨c, s⟩ := ite_satb s
    rw [Bool.and_eq_true] at c
    exact ⟨d, e, toD_ok hr _ _ _ _ rx e1, toD_ok hr _ _ _ _ ry e2, c.1, c.2, same_ok hr s rfl⟩
  · exact s.no.elim
end
end Rf
set_option maxHeartbeats 4000000
namespace Rf
open PySem PySem.Spec PyProof.Rows L2
section
variable {g : Gs} {W : WX} {m : List Addr} {H : Hp} {h : List Ob} {Q : VK}
/-! ### dicts -/
theorem key_ok {x : Uv} {v : V} {k : Key} (e : keyU x = some k) (r : VR g m H x v) : v = kV k := by
  unfold keyU at e
  split at e
  · cases e; cases r; rfl
  · cases e; cases r; rfl
  · cases e
theorem gVal_ok : ∀ {xs : List (Key × Uv)} {ys : List (Key × V)} (k : Key), KRs g m H xs ys → match gVal xs k with
    | some u => ∃ v, valV ys k = some v ∧ VR g m H u v
    | none => valV ys k = none
  | [], _, k, r => by rw [show _ = [] from r]; exact rfl
  | (k', x) :: xs, _, k, r => by
    obtain ⟨y, t, rfl, a, b⟩ := r
    show match (if k' = k then some x else gVal xs k) with | some u => _ | none => _
    by_cases hk : k' = k
    · rw [if_pos hk]
      exact ⟨y, valV_pos hk, a⟩
    · rw [if_neg hk]
      have ih := gVal_ok k b
      split
      · rename_i u e
        rw [e] at ih
        obtain ⟨v, e1, e2⟩ := ih
        exact ⟨v, by rw [valV_neg hk]; exact e1, e2⟩
      · rename_i e
        rw [e] at ih
        show valV ((k', y) :: t) k = none
        rw [valV_neg hk]
        exact ih
theorem gVal_isSome {xs : List (Key × Uv)} {ys : List (Key × V)} (k : Key) (r : KRs g m H xs ys) : (valV ys k).isSome = (gVal xs k).isSome := by
  have z := gVal_ok k r
  cases e : gVal xs k with
  | none => rw [e] at z; rw [show valV ys k = none from z] <;> rfl
  | some u =>
    rw [e] at z
    obtain ⟨v, e1, _⟩ := z
    rw [e1] <;> rfl
theorem gVal_getD {xs : List (Key × Uv)} {ys : List (Key × V)} (k : Key) (r : KRs g m H xs ys) : VR g m H ((gVal xs k).getD .non) ((valV ys k).getD .non) := by
  have z := gVal_ok k r
  cases e : gVal xs k with
  | none => rw [e] at z; rw [show valV ys k = none from z]; exact rfl
  | some u =>
    rw [e] at z
    obtain ⟨v, e1, e2⟩ := z
    rw [e1]; exact e2
theorem KRs.any {xs : List (Key × Uv)} {ys : List (Key × V)} (k : Key) (r : KRs g m H xs ys) : (ys.any fun p => decide (p.1 = k)) = xs.any fun p => decide (p.1 = k) := by
  induction xs generalizing ys with
  | nil => rw [show _ = [] from r] <;> rfl
  | cons p xs ih =>
    obtain ⟨k', x⟩ := p
    obtain ⟨y, t, rfl, a, b⟩ := r
    rw [List.any_cons, List.any_cons, ih b]
theorem KRs.snoc {k : Key} {u : Uv} {v : V} (rv : VR g m H u v) : ∀ {xs : List (Key × Uv)} {ys : List (Key × V)}, KRs g m H xs ys → KRs g m H (xs ++ [(k, u)]) (ys ++ [(k, v)])
  | [], _, r => by rw [show _ = [] from r]; exact ⟨v, [], rfl, rv, rfl⟩
  | (k', x) :: xs, _, r => by
    obtain ⟨y, t, rfl, a, b⟩ := r
    exact ⟨y, _, rfl, a, KRs.snoc rv b⟩
theorem KRs.repl {k : Key} {u : Uv} {v : V} (rv : VR g m H u v) : ∀ {xs : List (Key × Uv)} {ys : List (Key × V)}, KRs g m H xs ys → KRs g m H (xs.map fun p => if p.1 = k then (p.1, u) else p) (ys.map fun p => if p.1 = k then (p.1, v) else p)
  | [], _, r => by rw [show _ = [] from r]; exact rfl
  | (k', x) :: xs, _, r => by
    obtain ⟨y, t, rfl, a, b⟩ := r
    rw [List.map_cons, List.map_cons]
    by_cases hk : k' = k
    · rw [if_pos hk, if_pos hk]
      exact ⟨v, _, rfl, rv, KRs.repl rv b⟩
    · rw [if_neg hk, if_neg hk]
      exact ⟨y, _, rfl, a, KRs.repl rv b⟩
theorem gPut_ok {k : Key} {u : Uv} {v : V} (rv : VR g m H u v) {xs : List (Key × Uv)} {ys : List (Key × V)} (r : KRs g m H xs ys) : KRs g m H (gPut xs k u) (putK ys k v) := by
  unfold gPut putK
  rw [r.any k]
  by_cases c : (xs.any fun p => decide (p.1 = k)) = true
  · rw [if_pos c, if_pos c]; exact r.repl rv
  · rw [if_neg c, if_neg c]; exact r.snoc rv

end
end Rf
set_option maxHeartbeats 4000000
namespace Rf
open PySem PySem.Spec PyProof.Rows L2
/-! ### keys that are tuples, nested -/
mutual
theorem eqU_self : ∀ {u : Uv} {k : NestedKey}, nkU u = some k → eqU u u = true
  | .non, _, _ => rfl
  | .int i, _, _ => by simp [eqU]
  | .str x, _, _ => by simp [eqU]
  | .tup xs, k, h => by
    unfold nkU at h
    cases e : nkUs xs with
    | none => rw [e] at h; cases h
    | some ks =>
      show eqUs xs xs = true
      exact eqUs_self e
  | .bl _, _, h => by cases h
  | .ty _, _, h => by cases h
  | .obj _, _, h => by cases h
  | .glb _, _, h => by cases h
  | .alt _, _, h => by cases h
theorem eqUs_self : ∀ {us : List Uv} {ks : List NestedKey}, nkUs us = some ks → eqUs us us = true
  | [], _, _ => rfl
  | u :: us, ks, h => by
    unfold nkUs at h
    cases e1 : nkU u with
    | none => rw [e1] at h; cases h
    | some k =>
      cases e2 : nkUs us with
      | none => rw [e1, e2] at h; cases h
      | some ks' =>
        show (eqU u u && eqUs us us) = true
        rw [eqU_self e1, eqUs_self e2] <;> rfl
end
mutual
theorem nkU_inj : ∀ {u v : Uv} {k : NestedKey}, nkU u = some k → nkU v = some k → u = v
  | .non, v, k, h, h2 => by
    cases h
    cases v <;> first | rfl | (cases h2; done) | (unfold nkU at h2; split at h2 <;> cases h2)
  | .int i, v, k, h, h2 => by
    cases h
    cases v <;> first | (cases h2; done) | (cases h2; rfl) | (unfold nkU at h2; split at h2 <;> cases h2)
  | .str x, v, k, h, h2 => by
    cases h
    cases v <;> first | (cases h2; done) | (cases h2; rfl) | (unfold nkU at h2; split at h2 <;> cases h2)
  | .tup xs, v, k, h, h2 => by
    unfold nkU at h
    cases e : nkUs xs with
    | none => rw [e] at h; cases h
    | some ks =>
      rw [e] at h
      cases h
      cases v with
      | tup ys =>
        unfold nkU at h2
        cases e2 : nkUs ys with
        | none => rw [e2] at h2; cases h2
        | some ks' =>
          rw [e2] at h2
          cases h2
          rw [nkUs_inj e e2]
      | _ => cases h2
  | .bl _, _, _, h, _ => by cases h
  | .ty _, _, _, h, _ => by cases h
  | .obj _, _, _, h, _ => by cases h
  | .glb _, _, _, h, _ => by cases h
  | .alt _, _, _, h, _ => by cases h
theorem nkUs_inj : ∀ {us vs : List Uv} {ks : List NestedKey}, nkUs us = some ks → nkUs vs = some ks → us = vs
  | [], vs, ks, h, h2 => by
    cases h
    cases vs with
    | nil => rfl
    | cons v vs =>
      unfold nkUs at h2
      split at h2 <;> cases h2
  | u :: us, vs, ks, h, h2 => by
    unfold nkUs at h
    cases e1 : nkU u with
    | none => rw [e1] at h; cases h
    | some k =>
      cases e2 : nkUs us with
      | none => rw [e1, e2] at h; cases h
      | some ks' =>
        rw [e1, e2] at h
        cases h
        cases vs with
        | nil => cases h2
        | cons v vs =>
          unfold nkUs at h2
          cases e3 : nkU v with
          | none => rw [e3] at h2; cases h2
          | some k2 =>
            cases e4 : nkUs vs with
            | none => rw [e3, e4] at h2; cases h2
            | some ks2 =>
              rw [e3, e4] at h2
              cases h2
              rw [nkU_inj e1 e3, nkUs_inj e2 e4]
end
theorem eqU_keys {u v : Uv} {k l : NestedKey} (h : nkU u = some k) (h2 : nkU v = some l) : eqU u v = decide (k = l) := by
  by_cases e : k = l
  · subst e
    rw [nkU_inj h h2, eqU_self h2]
    simp
  · rw [decide_eq_false e]
    cases q : eqU u v with
    | false => rfl
    | true =>
      have z := eqU_ok u v q
      subst z
      rw [h] at h2
      cases h2
      exact (e rfl).elim
mutual
theorem kyB_ok : ∀ {n : Nat} {u : Uv}, kyB n u = true → ∃ k, nkU u = some k ∧ k.depth ≤ n
  | n, .non, _ => ⟨.none, rfl, Nat.zero_le _⟩
  | n, .int i, _ => ⟨.num i, rfl, Nat.zero_le _⟩
  | n, .str x, _ => ⟨.text x, rfl, Nat.zero_le _⟩
  | 0, .tup xs, h => by cases h
  | n + 1, .tup xs, h => by
    obtain ⟨ks, e, l⟩ := kysB_ok (n := n) (us := xs) h
    refine ⟨.tup ks, by unfold nkU; rw [e], ?_⟩
    show NestedKey.depthAll ks + 1 ≤ n + 1
    omega
  | n, .bl _, h => by cases h
  | n, .ty _, h => by cases h
  | n, .obj _, h => by cases h
  | n, .glb _, h => by cases h
  | n, .alt _, h => by cases h
theorem kysB_ok : ∀ {n : Nat} {us : List Uv}, kysB n us = true → ∃ ks, nkUs us = some ks ∧ NestedKey.depthAll ks ≤ n
  | n, [], _ => ⟨[], rfl, Nat.zero_le _⟩
  | n, u :: us, h => by
    have h : (kyB n u && kysB n us) = true := h
    rw [Bool.and_eq_true] at h
    obtain ⟨k, e1, l1⟩ := kyB_ok h.1
    obtain ⟨ks, e2, l2⟩ := kysB_ok h.2
    refine ⟨k :: ks, by unfold nkUs; rw [e1, e2], ?_⟩
    show max (NestedKey.depth k) (NestedKey.depthAll ks) ≤ n
    omega
end
theorem keyT_ok {u : Uv} (h : keyT u = true) : ∃ xs k, u = .tup xs ∧ nkU u = some k ∧ k.depth ≤ 8 := by
  unfold keyT at h
  split at h
  · rename_i xs
    obtain ⟨ks, e, l⟩ := kysB_ok h
    refine ⟨xs, .tup ks, rfl, by unfold nkU; rw [e], ?_⟩
    show NestedKey.depthAll ks + 1 ≤ 8
    omega
  · cases h
/-! ### the abstract heap's side -/
mutual
/-- the value v is the key k -/
def NkV (K : PySem.W.Frag) (H : Hp) : NestedKey → V → Prop
  | .none, v => v = .non
  | .num i, v => v = .int i
  | .text x, v => v = .str x
  | .tup ks, v => ∃ p ys, v = .ref p ∧ SqT K H p ys ∧ NkVs K H ks ys
def NkVs (K : PySem.W.Frag) (H : Hp) : List NestedKey → List V → Prop
  | [], ys => ys = []
  | k :: ks, ys => ∃ y r, ys = y :: r ∧ NkV K H k y ∧ NkVs K H ks r
end
section
variable {g : Gs} {m : List Addr} {H : Hp} {h : List Ob}
mutual
theorem nk_of : ∀ {u : Uv} {k : NestedKey} {v : V}, nkU u = some k → VR g m H u v → NkV g.K H k v
  | .non, k, v, h, r => by cases h; exact r
  | .int i, k, v, h, r => by cases h; exact r
  | .str x, k, v, h, r => by cases h; exact r
  | .tup xs, k, v, h, r => by
    unfold nkU at h
    cases e : nkUs xs with
    | none => rw [e] at h; cases h
    | some ks =>
      rw [e] at h
      cases h
      obtain ⟨p, ys, e1, a, b⟩ := r
      exact ⟨p, ys, e1, a, nks_of e b⟩
  | .bl _, _, _, h, _ => by cases h
  | .ty _, _, _, h, _ => by cases h
  | .obj _, _, _, h, _ => by cases h
  | .glb _, _, _, h, _ => by cases h
  | .alt _, _, _, h, _ => by cases h
theorem nks_of : ∀ {us : List Uv} {ks : List NestedKey} {vs : List V}, nkUs us = some ks → VRs g m H us vs → NkVs g.K H ks vs
  | [], ks, vs, h, r => by cases h; exact r
  | u :: us, ks, vs, h, r => by
    unfold nkUs at h
    cases e1 : nkU u with
    | none => rw [e1] at h; cases h
    | some k =>
      cases e2 : nkUs us with
      | none => rw [e1, e2] at h; cases h
      | some ks' =>
        rw [e1, e2] at h
        cases h
        obtain ⟨y, t, e, a, b⟩ := r
        exact ⟨y, t, e, nk_of e1 a, nks_of e2 b⟩
end
end
section
variable {X : Cx} {pins : List (Addr × Obj)} {σ : L2.St} {H : Hp} {s : Shared}
mutual
theorem nk_is (I : Inv X pins σ H s) : ∀ {k : NestedKey} {v : V} {u : Value}, NkV X.K H k v → RelV v u → NestedIs s.heap k u
  | .none, v, u, h, r => by
    have h : v = .non := h
    subst h
    have r : u = Value.none := r
    subst r
    exact .none
  | .num i, v, u, h, r => by
    have h : v = .int i := h
    subst h
    obtain ⟨t, rfl⟩ := r
    exact .int i t
  | .text x, v, u, h, r => by
    have h : v = .str x := h
    subst h
    obtain ⟨t, rfl⟩ := r
    exact .text x t
  | .tup ks, v, u, h, r => by
    obtain ⟨p, ys, rfl, hq, hk⟩ := h
    have r : u = Value.ref p := r
    subst r
    obtain ⟨its, rv, ⟨o, e1, e2, n, e3⟩, _⟩ := I.tuple hq
    exact .tup e1 e2 e3 (by simpa using nks_is I hk rv)
theorem nks_is (I : Inv X pins σ H s) : ∀ {ks : List NestedKey} {vs : List V} {us : List Value}, NkVs X.K H ks vs → Vals vs us → NestedAll s.heap ks us
  | [], vs, us, h, r => by
    have h : vs = [] := h
    subst h
    cases r
    exact .nil
  | k :: ks, vs, us, h, r => by
    obtain ⟨y, t, rfl, a, b⟩ := h
    cases r with
    | cons r1 r2 => exact .cons (nk_is I a r1) (nks_is I b r2)
end
end
/-- the entries of a dict with nested keys, as they lie in the abstract heap -/
def NdAt (P : Program) (w : World) (K : PySem.W.Frag) (H : Hp) (a : Addr) (xs : List (NestedKey × Addr × V)) : Prop :=
  (H a = some (NdO P w a xs) ∨ (xs = [] ∧ H a = some (.dK []))) ∧ ∀ e ∈ xs, NkV K H e.1 (.ref e.2.1) ∧ e.1.depth ≤ 8
def PN (p : NestedKey × Addr × V) (q : NestedKey × Addr × Value) : Prop := p.1 = q.1 ∧ p.2.1 = q.2.1 ∧ RelV p.2.2 q.2.2
def atN (xs : List (NestedKey × Addr × V)) (k : NestedKey) : Option V := (xs.find? fun x => decide (x.1 = k)).map (·.2.2)
def putN (xs : List (NestedKey × Addr × V)) (k : NestedKey) (b : Addr) (v : V) : List (NestedKey × Addr × V) :=
  if (atN xs k).isSome then xs.map (fun e => if e.1 = k then (e.1, e.2.1, v) else e) else xs ++ [(k, b, v)]
def dropN (xs : List (NestedKey × Addr × V)) (k : NestedKey) : List (NestedKey × Addr × V) := xs.filter fun x => decide (x.1 ≠ k)
theorem pn_keys : ∀ {xs : List (NestedKey × Addr × V)} {ys : List (NestedKey × Addr × Value)}, Paired PN xs ys → xs.map (·.1) = ys.map (·.1)
  | _, _, .nil => rfl
  | _, _, .cons r t => by rw [List.map_cons, List.map_cons, r.1, pn_keys t]
theorem pn_at {k : NestedKey} : ∀ {xs : List (NestedKey × Addr × V)} {ys : List (NestedKey × Addr × Value)}, Paired PN xs ys → (atN xs k = none ∧ atKey ys k = none) ∨ ∃ v b u, atN xs k = some v ∧ atKey ys k = some (b, u) ∧ RelV v u
  | _, _, .nil => .inl ⟨rfl, rfl⟩
  | (k', b, v) :: xs, (k2, b2, u) :: ys, .cons r t => by
    obtain ⟨r1, r2, r3⟩ := r
    have r1 : k' = k2 := r1
    subst r1
    by_cases e : k' = k
    · right
      refine ⟨v, b2, u, ?_, ?_, r3⟩
      · unfold atN; rw [List.find?_cons_of_pos (by simpa using e)] <;> rfl
      · unfold atKey; rw [List.find?_cons_of_pos (by simpa using e)] <;> rfl
    · have q := pn_at (k := k) t
      unfold atN atKey at q ⊢
      rw [List.find?_cons_of_neg (by simpa using e), List.find?_cons_of_neg (by simpa using e)]
      exact q
theorem pn_isSome {k : NestedKey} {xs : List (NestedKey × Addr × V)} {ys : List (NestedKey × Addr × Value)} (r : Paired PN xs ys) : (atN xs k).isSome = (atKey ys k).isSome := by
  rcases pn_at (k := k) r with ⟨a, b⟩ | ⟨v, b, u, e1, e2, _⟩
  · rw [a, b] <;> rfl
  · rw [e1, e2] <;> rfl
theorem pn_put {k : NestedKey} {b : Addr} {v : V} {u : Value} {xs : List (NestedKey × Addr × V)} {ys : List (NestedKey × Addr × Value)} (r : Paired PN xs ys) (rv : RelV v u) : Paired PN (putN xs k b v) (storedH ys k b u) := by
  unfold putN storedH
  rw [pn_isSome r]
  by_cases c : (atKey ys k).isSome = true
  · rw [if_pos c, if_pos c]
    clear c
    induction r with
    | nil => exact .nil
    | @cons p q ps qs hq t ih =>
      rw [List.map_cons, List.map_cons]
      refine .cons ?_ ih
      obtain ⟨r1, r2, r3⟩ := hq
      unfold putAt
      by_cases e : p.1 = k
      · rw [if_pos e, if_pos (r1 ▸ e)]
        exact ⟨r1, r2, rv⟩
      · rw [if_neg e, if_neg (fun z => e (r1.trans z))]
        exact ⟨r1, r2, r3⟩
  · rw [if_neg c, if_neg c]
    clear c
    induction r with
    | nil => exact .cons ⟨rfl, rfl, rv⟩ .nil
    | cons hq t ih => exact .cons hq ih
theorem pn_drop {k : NestedKey} {xs : List (NestedKey × Addr × V)} {ys : List (NestedKey × Addr × Value)} (r : Paired PN xs ys) : Paired PN (dropN xs k) (withoutH ys k) := by
  unfold dropN withoutH
  induction r with
  | nil => exact .nil
  | @cons p q ps qs hq t ih =>
    obtain ⟨r1, r2, r3⟩ := hq
    by_cases e : p.1 = k
    · rw [List.filter_cons_of_neg (by simpa using e), List.filter_cons_of_neg (by simpa using (r1 ▸ e))]
      exact ih
    · rw [List.filter_cons_of_pos (by simpa using e), List.filter_cons_of_pos (by simpa using (fun z => e (r1.trans z)))]
      exact .cons ⟨r1, r2, r3⟩ ih
theorem putN_len (xs : List (NestedKey × Addr × V)) (k : NestedKey) (b : Addr) (v : V) : (putN xs k b v).length ≤ xs.length + 1 := by
  unfold putN
  split
  · rw [List.length_map]; omega
  · rw [List.length_append] <;> exact Nat.le_refl _
theorem putN_keys {xs : List (NestedKey × Addr × V)} {k : NestedKey} {b : Addr} {v : V} {e : NestedKey × Addr × V} (h : e ∈ putN xs k b v) : (∃ e' ∈ xs, e'.1 = e.1 ∧ e'.2.1 = e.2.1) ∨ (e.1 = k ∧ e.2.1 = b) := by
  unfold putN at h
  split at h
  · obtain ⟨e', h1, h2⟩ := List.mem_map.mp h
    left
    refine ⟨e', h1, ?_⟩
    split at h2
    · subst h2; exact ⟨rfl, rfl⟩
    · subst h2; exact ⟨rfl, rfl⟩
  · rcases List.mem_append.mp h with h | h
    · exact .inl ⟨e, h, rfl, rfl⟩
    · have h : e = (k, b, v) := by simpa using h
      subst h
      exact .inr ⟨rfl, rfl⟩
/-- only the one object counts -/
theorem ndF_stay {P : Program} {w : World} {a : Addr} {xs : List (NestedKey × Addr × V)} {h1 h2 : Heap} (x : NdF P w a xs h1) (k : ∀ o, h1.get? a = some o → h2.get? a = some o) : NdF P w a xs h2 := by
  obtain ⟨a1, a2, a3, ys, r, o, es, ep, e, b⟩ := x
  exact ⟨a1, a2, a3, ys, r, o, es, ep, k o e, b⟩
section
variable {X : Cx} {pins : List (Addr × Obj)} {σ : L2.St} {H : Hp} {s : Shared} {a b : Addr} {xs : List (NestedKey × Addr × V)} {k : NestedKey} {v : V} {u : Value} {A : Around} {E : Value → Shared → Prop}
theorem nd_all (I : Inv X pins σ H s) : ∀ {xs : List (NestedKey × Addr × V)} {ys : List (NestedKey × Addr × Value)}, Paired PN xs ys → (∀ e ∈ xs, NkV X.K H e.1 (.ref e.2.1) ∧ e.1.depth ≤ 8) → ∀ x ∈ ys, (nestedKind X.prog X.w).is s.heap x.1 x.2.1
  | _, _, .nil, _ => fun x hx => nomatch hx
  | p :: ps, q :: qs, .cons hq t, hk => fun x hx => by
    rcases List.mem_cons.mp hx with e | hx
    · subst e
      obtain ⟨r1, r2, r3⟩ := hq
      obtain ⟨n1, n2⟩ := hk p List.mem_cons_self
      exact ⟨by rw [← r1, ← r2]; exact nk_is I n1 rfl, by rw [← r1]; exact n2⟩
    · exact nd_all I t (fun e he => hk e (List.mem_cons_of_mem _ he)) x hx
theorem nd_rd (I : Inv X pins σ H s) (h : NdAt X.prog X.w X.K H a xs) : (a == sysModules) = false ∧ xs.length ≤ sizeLine ∧ ∃ ys, Paired PN xs ys ∧ s.heap.DictOfH (nestedKind X.prog X.w) a ys := by
  obtain ⟨h0, hk⟩ := h
  rcases h0 with h0 | ⟨rfl, h0⟩
  · obtain ⟨⟨z, l, nd, ys, r, o, es, ep, e1, e2, e3, e4⟩, _, _⟩ := I.hok a _ h0
    exact ⟨z, l, ys, r, o, es, ep, e1, e2, e3, e4, nd_all I r hk, by rw [← pn_keys r]; exact nd⟩
  · obtain ⟨z, hd, vs, rel, o, es, ep, e1, e2, e3, e4, e5, e6⟩ := dk_of I.hok h0
    cases rel
    have e7 : es.toList = [] := by
      generalize es.toList = l at e5
      cases e5
      rfl
    exact ⟨hd, Nat.zero_le _, [], .nil, o, es, ep, e1, e2, e3, e7, (fun x hx => nomatch hx), List.nodup_nil⟩
/-- k in d -/
theorem nd_in {Q : Value → Shared → Prop} (hu : A.units + 9 < cLine) (I : Inv X pins σ H s) (h : NdAt X.prog X.w X.K H a xs) (hk : NkV X.K H k (.ref b)) (hd : k.depth ≤ 8) (q : ∀ s', Inv X pins σ H s' → Q (.bool (atN xs k).isSome) s') :
    wpAny (model X.prog X.w) A (compareOp .In (.ref b) (.ref a)) Q E s := by
  obtain ⟨z, l, ys, r, d⟩ := nd_rd I h
  refine wpAny_in_heap (knd := nestedKind X.prog X.w) (by show A.in1.units + 8 < cLine; rw [Around.in1_units]; omega) ⟨nk_is I hk rfl, hd⟩ z d ?_
  rw [← pn_isSome r]
  exact q _ (I.tok _)
theorem nd_notIn {Q : Value → Shared → Prop} (hu : A.units + 9 < cLine) (I : Inv X pins σ H s) (h : NdAt X.prog X.w X.K H a xs) (hk : NkV X.K H k (.ref b)) (hd : k.depth ≤ 8) (q : ∀ s', Inv X pins σ H s' → Q (.bool (!(atN xs k).isSome)) s') :
    wpAny (model X.prog X.w) A (compareOp .NotIn (.ref b) (.ref a)) Q E s := by
  obtain ⟨z, l, ys, r, d⟩ := nd_rd I h
  refine wpAny_notIn_heap (knd := nestedKind X.prog X.w) (by show A.in1.units + 8 < cLine; rw [Around.in1_units]; omega) ⟨nk_is I hk rfl, hd⟩ z d ?_
  rw [← pn_isSome r]
  exact q _ (I.tok _)
/-- d[k] -/
theorem nd_getItem {Q : Value → Shared → Prop} (hu : A.units + 9 < cLine) (I : Inv X pins σ H s) (h : NdAt X.prog X.w X.K H a xs) (hk : NkV X.K H k (.ref b)) (hd : k.depth ≤ 8) (hv : atN xs k = some v) (q : ∀ u s', Inv X pins σ H s' → RelV v u → Q u s') :
    wpAny (model X.prog X.w) A (getItem (.ref a) (.ref b)) Q E s := by
  obtain ⟨z, l, ys, r, d⟩ := nd_rd I h
  rcases pn_at (k := k) r with ⟨e, _⟩ | ⟨v', b', u, e1, e2, e3⟩
  · rw [hv] at e; cases e
  · rw [hv] at e1; cases e1
    exact wpAny_getItem_heap (knd := nestedKind X.prog X.w) (by show A.in1.units + 8 < cLine; rw [Around.in1_units]; omega) ⟨nk_is I hk rfl, hd⟩ d e2 (q u _ (I.tok _) e3)
/-- d.get(k) -/
theorem nd_get {Q : Value → Shared → Prop} (hu : A.units + 9 < cLine) (I : Inv X pins σ H s) (h : NdAt X.prog X.w X.K H a xs) (hk : NkV X.K H k (.ref b)) (hd : k.depth ≤ 8) (q : ∀ u s', Inv X pins σ H s' → RelV ((atN xs k).getD .non) u → Q u s') :
    wpAny (model X.prog X.w) A (call (.builtin "dict.get") [.ref a, .ref b]) Q E s := by
  obtain ⟨z, l, ys, r, d⟩ := nd_rd I h
  refine call_meetsIn PySem.F.slot_dict_get d.typeIs PySem.F.entry_dict_get (PySem.F.args_dict_get_2 _ _) (meetsH_dict_get (nestedKind X.prog X.w) a b z) ⟨(by show A.in1.units + 8 < cLine; rw [Around.in1_units]; omega), k, ys, ⟨nk_is I hk rfl, hd⟩, d, q _ _ (I.tok _) ?_⟩
  rcases pn_at (k := k) r with ⟨e, e'⟩ | ⟨v', b', u, e1, e2, e3⟩
  · rw [e, e']; exact rfl
  · rw [e1, e2]; exact e3
theorem nd_mut (h : NdAt X.prog X.w X.K H a xs) : Mut (H a) ∧ ∃ o, H a = some o := by
  rcases h.1 with h | ⟨_, h⟩
  · rw [h]; exact ⟨trivial, _, rfl⟩
  · rw [h]; exact ⟨trivial, _, rfl⟩
theorem nd_obj {h' : Heap} {ys : List (NestedKey × Addr × Value)} (z : (a == sysModules) = false) (l : xs.length ≤ sizeLine) (r : Paired PN xs ys) (d : h'.DictOfH (nestedKind X.prog X.w) a ys) (Ha : Hp) : ObjOk X.prog X.w Ha h' a (NdO X.prog X.w a xs) := by
  obtain ⟨o, es, ep, e1, e2, e3, e4, _, e5⟩ := d
  exact ⟨⟨z, l, by rw [pn_keys r]; exact e5, ys, r, o, es, ep, e1, e2, e3, e4⟩, ⟨o, e1⟩, fun h1 h2 x k => ndF_stay x k⟩
/-- d[k] = v -/
theorem nd_setItem {r' : Value} {Q : Unit → Shared → Prop} (hu : A.units + 9 < cLine) (I : Inv X pins σ H s) (h : NdAt X.prog X.w X.K H a xs) (hk : NkV X.K H k (.ref b)) (hd : k.depth ≤ 8) (hl : xs.length < sizeLine) (rv : RelV v r') (q : ∀ s', Inv X pins σ (upd H a (NdO X.prog X.w a (putN xs k b v))) s' → Q () s') :
    wpAny (model X.prog X.w) A (setItem (.ref a) (.ref b) r') Q E s := by
  obtain ⟨z, l, ys, r, d⟩ := nd_rd I h
  refine wpAny_setItem_heap (knd := nestedKind X.prog X.w) (hsz := by rw [← Paired.length r]; exact l) (by show A.in1.units + 8 < cLine; rw [Around.in1_units]; omega) ⟨nk_is I hk rfl, hd⟩ d fun h' d' hs => q _ ?_
  have he : ∃ q, h'.get? a = some q := let ⟨q, _, _, hq, _⟩ := d'; ⟨q, hq⟩
  exact d_write I (nd_mut h).1 hs he (nd_obj (X := X) z (by have := putN_len xs k b v; omega) (pn_put r rv) d' _)
/-- the same in a comprehension, a display -/
theorem nd_dictSet {r' : Value} {Q : Unit → Shared → Prop} (hu : A.units + 9 < cLine) (I : Inv X pins σ H s) (h : NdAt X.prog X.w X.K H a xs) (hk : NkV X.K H k (.ref b)) (hd : k.depth ≤ 8) (hl : xs.length < sizeLine) (rv : RelV v r') (q : ∀ s', Inv X pins σ (upd H a (NdO X.prog X.w a (putN xs k b v))) s' → Q () s') :
    wpAny (model X.prog X.w) A (dictSet a (.ref b) r') Q E s := by
  obtain ⟨z, l, ys, r, d⟩ := nd_rd I h
  refine wpAny_dictSet_heap (knd := nestedKind X.prog X.w) (hsz := by rw [← Paired.length r]; exact l) (by show A.units + 8 < cLine; omega) ⟨nk_is I hk rfl, hd⟩ d fun h' d' hs => q _ ?_
  have he : ∃ q, h'.get? a = some q := let ⟨q, _, _, hq, _⟩ := d'; ⟨q, hq⟩
  exact d_write I (nd_mut h).1 hs he (nd_obj (X := X) z (by have := putN_len xs k b v; omega) (pn_put r rv) d' _)
/-- d.pop(k) -/
theorem nd_pop {Q : Value → Shared → Prop} (hu : A.units + 9 < cLine) (I : Inv X pins σ H s) (h : NdAt X.prog X.w X.K H a xs) (hk : NkV X.K H k (.ref b)) (hd : k.depth ≤ 8) (hv : atN xs k = some v) (q : ∀ u s', Inv X pins σ (upd H a (NdO X.prog X.w a (dropN xs k))) s' → RelV v u → Q u s') :
    wpAny (model X.prog X.w) A (call (.builtin "dict.pop") [.ref a, .ref b]) Q E s := by
  obtain ⟨z, l, ys, r, d⟩ := nd_rd I h
  rcases pn_at (k := k) r with ⟨e, _⟩ | ⟨v', b', u, e1, e2, e3⟩
  · rw [hv] at e; cases e
  · rw [hv] at e1; cases e1
    refine call_pop_heap (knd := nestedKind X.prog X.w) (hsz := by rw [← Paired.length r]; exact l) (.inl rfl) (PySem.F.args_dict_pop_2 _ _) (by show A.in1.units + 8 < cLine; rw [Around.in1_units]; omega) ⟨nk_is I hk rfl, hd⟩ z d e2 fun h' d' hs => q _ _ ?_ e3
    have he : ∃ q, h'.get? a = some q := let ⟨q, _, _, hq, _⟩ := d'; ⟨q, hq⟩
    exact d_write I (nd_mut h).1 hs he (nd_obj (X := X) z (Nat.le_trans (List.length_filter_le _ _) l) (pn_drop r) d' _)
end
/-! ### data and the abstract heap -/
section
variable {g : Gs} {W : WX} {m : List Addr} {H : Hp} {h : List Ob} {u w : Uv} {k : NestedKey} {b : Addr} {v : V}
theorem nks_at (hk : nkU u = some k) : ∀ {kvs : List (Uv × Uv)} {xs : List (NestedKey × Addr × V)}, NKs g m H kvs xs → (gValU kvs u = none ∧ atN xs k = none) ∨ ∃ w v, gValU kvs u = some w ∧ atN xs k = some v ∧ VR g m H w v
  | [], _, r => by rw [show _ = [] from r]; exact .inl ⟨rfl, rfl⟩
  | (u', w) :: kvs, _, r => by
    obtain ⟨k', b', y, t, rfl, ⟨n1, n2⟩, r1, r2, r3⟩ := r
    have e := eqU_keys n1 hk
    unfold gValU atN
    by_cases q : k' = k
    · rw [e, decide_eq_true q, List.find?_cons_of_pos (by simpa using q)]
      exact .inr ⟨w, y, rfl, rfl, r2⟩
    · rw [e, decide_eq_false q, List.find?_cons_of_neg (by simpa using q)]
      exact nks_at hk r3
theorem nks_some (hk : nkU u = some k) {kvs : List (Uv × Uv)} {xs : List (NestedKey × Addr × V)} (r : NKs g m H kvs xs) : (gValU kvs u).isSome = (atN xs k).isSome := by
  rcases nks_at hk r with ⟨a, b⟩ | ⟨_, _, a, b, _⟩
  · rw [a, b] <;> rfl
  · rw [a, b] <;> rfl
theorem nks_has (hk : nkU u = some k) : ∀ {kvs : List (Uv × Uv)} {xs : List (NestedKey × Addr × V)}, NKs g m H kvs xs → hasU kvs u = (atN xs k).isSome
  | [], _, r => by rw [show _ = [] from r] <;> rfl
  | (u', w) :: kvs, _, r => by
    obtain ⟨k', b', y, t, rfl, ⟨n1, n2⟩, r1, r2, r3⟩ := r
    have e := eqU_keys n1 hk
    unfold hasU atN
    by_cases q : k' = k
    · rw [e, decide_eq_true q, List.find?_cons_of_pos (by simpa using q)] <;> rfl
    · rw [e, decide_eq_false q, List.find?_cons_of_neg (by simpa using q)]
      exact nks_has hk r3
theorem nks_rep (hk : nkU u = some k) (rv : VR g m H w v) : ∀ {kvs : List (Uv × Uv)} {xs : List (NestedKey × Addr × V)}, NKs g m H kvs xs → NKs g m H (gRepU kvs u w) (xs.map fun e => if e.1 = k then (e.1, e.2.1, v) else e)
  | [], _, r => by rw [show _ = [] from r]; exact rfl
  | (u', w') :: kvs, _, r => by
    obtain ⟨k', b', y, t, rfl, ⟨n1, n2⟩, r1, r2, r3⟩ := r
    have e := eqU_keys n1 hk
    have ih := nks_rep hk rv r3
    unfold gRepU
    rw [List.map_cons]
    by_cases q : k' = k
    · rw [e, decide_eq_true q, if_pos q]
      exact ⟨k', b', v, _, rfl, ⟨n1, n2⟩, r1, rv, ih⟩
    · rw [e, decide_eq_false q, if_neg q]
      exact ⟨k', b', y, _, rfl, ⟨n1, n2⟩, r1, r2, ih⟩
theorem nks_app (hk : nkU u = some k) (hd : k.depth ≤ 8) (ru : VR g m H u (.ref b)) (rv : VR g m H w v) : ∀ {kvs : List (Uv × Uv)} {xs : List (NestedKey × Addr × V)}, NKs g m H kvs xs → NKs g m H (kvs ++ [(u, w)]) (xs ++ [(k, b, v)])
  | [], _, r => by rw [show _ = [] from r]; exact ⟨k, b, v, [], rfl, ⟨hk, hd⟩, ru, rv, rfl⟩
  | (u', w') :: kvs, _, r => by
    obtain ⟨k', b', y, t, rfl, n, r1, r2, r3⟩ := r
    exact ⟨k', b', y, _, rfl, n, r1, r2, nks_app hk hd ru rv r3⟩
theorem nks_put (hk : nkU u = some k) (hd : k.depth ≤ 8) (ru : VR g m H u (.ref b)) (rv : VR g m H w v) {kvs : List (Uv × Uv)} {xs : List (NestedKey × Addr × V)} (r : NKs g m H kvs xs) : NKs g m H (gPutU kvs u w) (putN xs k b v) := by
  unfold gPutU putN
  rw [nks_has hk r]
  cases e : (atN xs k).isSome with
  | true =>
    rw [if_pos rfl]
    exact nks_rep hk rv r
  | false =>
    rw [if_neg (fun z => nomatch z)]
    exact nks_app hk hd ru rv r
theorem nks_drop (hk : nkU u = some k) : ∀ {kvs : List (Uv × Uv)} {xs : List (NestedKey × Addr × V)}, NKs g m H kvs xs → NKs g m H (gDropU kvs u) (dropN xs k)
  | [], _, r => by rw [show _ = [] from r]; exact rfl
  | (u', w') :: kvs, _, r => by
    obtain ⟨k', b', y, t, rfl, ⟨n1, n2⟩, r1, r2, r3⟩ := r
    have e := eqU_keys n1 hk
    have ih := nks_drop hk r3
    unfold gDropU dropN
    by_cases q : k' = k
    · rw [e, decide_eq_true q, List.filter_cons_of_neg (by simpa using q)]
      exact ih
    · rw [e, decide_eq_false q, List.filter_cons_of_pos (by simpa using q)]
      exact ⟨k', b', y, _, rfl, ⟨n1, n2⟩, r1, r2, ih⟩
theorem nks_all : ∀ {kvs : List (Uv × Uv)} {xs : List (NestedKey × Addr × V)}, NKs g m H kvs xs → ∀ e ∈ xs, NkV g.K H e.1 (.ref e.2.1) ∧ e.1.depth ≤ 8
  | [], _, r => by rw [show _ = [] from r]; exact fun e he => nomatch he
  | (u', w') :: kvs, _, r => by
    obtain ⟨k', b', y, t, rfl, ⟨n1, n2⟩, r1, r2, r3⟩ := r
    intro e he
    rcases List.mem_cons.mp he with rfl | he
    · exact ⟨nk_of n1 r1, n2⟩
    · exact nks_all r3 e he
theorem HR.getN (x : HR g m H h) {n i : Nat} {kvs : List (Uv × Uv)} (hv : VR g m H (.obj n) v) (hu : h[n]? = some (.dicN i kvs)) (hi : i = n) :
    ∃ (a : Addr) (xs : List (NestedKey × Addr × V)), v = .ref a ∧ m[n]? = some a ∧ H a = some (NdO g.P g.w a xs) ∧ NKs g m H kvs xs ∧ NdAt g.P g.w g.K H a xs := by
  subst hi
  obtain ⟨p, ho, e, a, b, a', xs, e2, rfl, r⟩ := x.get hv hu
  rw [a] at e2; cases e2
  exact ⟨p, xs, e, a, b, r, .inl b, nks_all r⟩
theorem HR.getE (x : HR g m H h) {n : Nat} (hv : VR g m H (.obj n) v) (hu : h[n]? = some (.dic [])) : ∃ (a : Addr), v = .ref a ∧ m[n]? = some a ∧ H a = some (.dK []) ∧ NdAt g.P g.w g.K H a [] := by
  obtain ⟨p, l, e, a, b, r⟩ := x.getD hv hu
  have r : l = [] := r
  subst r
  exact ⟨p, e, a, b, .inr ⟨rfl, b⟩, fun e he => nomatch he⟩
theorem key_ref {x : Uv} {a : V} (hx : keyT x = true) (rx : VR g m H x a) : ∃ b k, a = .ref b ∧ nkU x = some k ∧ k.depth ≤ 8 ∧ NkV g.K H k (.ref b) := by
  obtain ⟨xs, k, rfl, e, d⟩ := keyT_ok hx
  have q := nk_of e rx
  obtain ⟨p, ys, rfl, _⟩ := rx
  exact ⟨p, k, rfl, e, d, q⟩
end
/-! ### rules -/
def rInN (P : Program) (w : World) (K : PySem.W.Frag) (f : Bool → Bool) : R2 := fun x y H Q => ∃ a b xs k, x = .ref b ∧ y = .ref a ∧ NdAt P w K H a xs ∧ NkV K H k (.ref b) ∧ k.depth ≤ 8 ∧ Q (.bl (f (atN xs k).isSome)) H
def rSubN (P : Program) (w : World) (K : PySem.W.Frag) : R2 := fun x y H Q => ∃ a b xs k v, x = .ref a ∧ y = .ref b ∧ NdAt P w K H a xs ∧ NkV K H k (.ref b) ∧ k.depth ≤ 8 ∧ atN xs k = some v ∧ Q v H
def rGetN (P : Program) (w : World) (K : PySem.W.Frag) : V → List V → Hp → VK → Prop := fun x vs H Q => ∃ a b xs k, x = .ref a ∧ vs = [.ref b] ∧ NdAt P w K H a xs ∧ NkV K H k (.ref b) ∧ k.depth ≤ 8 ∧ Q ((atN xs k).getD .non) H
def rPopN (P : Program) (w : World) (K : PySem.W.Frag) : V → List V → Hp → VK → Prop := fun x vs H Q => ∃ a b xs k v, x = .ref a ∧ vs = [.ref b] ∧ NdAt P w K H a xs ∧ NkV K H k (.ref b) ∧ k.depth ≤ 8 ∧ atN xs k = some v ∧ Q v (upd H a (NdO P w a (dropN xs k)))
def rSetN (P : Program) (w : World) (K : PySem.W.Frag) : TSet := fun o i v H Q => ∃ a b xs k, o = .ref a ∧ i = .ref b ∧ NdAt P w K H a xs ∧ NkV K H k (.ref b) ∧ k.depth ≤ 8 ∧ xs.length < sizeLine ∧ Q (upd H a (NdO P w a (putN xs k b v)))
section
variable {X : Cx}
theorem op_inN (hu : X.A.units + 9 < cLine) : OpR X (compareOp .In) (rInN X.prog X.w X.K id) := by
  intro pins s σ H x y v u Q I rx ry h
  obtain ⟨a, b, xs, k, rfl, rfl, hn, hk, hd, q⟩ := h
  cases rx
  cases ry
  exact nd_in hu I hn hk hd fun s' I' => ⟨.bl _, H, I', rfl, q⟩
theorem op_notInN (hu : X.A.units + 9 < cLine) : OpR X (compareOp .NotIn) (rInN X.prog X.w X.K not) := by
  intro pins s σ H x y v u Q I rx ry h
  obtain ⟨a, b, xs, k, rfl, rfl, hn, hk, hd, q⟩ := h
  cases rx
  cases ry
  exact nd_notIn hu I hn hk hd fun s' I' => ⟨.bl _, H, I', rfl, q⟩
theorem nd_type {pins : List (Addr × Obj)} {σ : L2.St} {H : Hp} {s : Shared} {a : Addr} {xs : List (NestedKey × Addr × V)} (I : Inv X pins σ H s) (h : NdAt X.prog X.w X.K H a xs) : s.TypeIs (.ref a) "dict" := by
  obtain ⟨_, _, ys, _, d⟩ := nd_rd I h
  exact d.typeIs
theorem ix_nd (hu : X.A.units + 9 < cLine) : IxR X (rSubN X.prog X.w X.K) := by
  intro value slice pins s σ H x y v u Q I rx ry h hs
  obtain ⟨a, b, xs, k, z, rfl, rfl, hn, hk, hd, hv, q⟩ := h
  cases rx
  cases ry
  exact tail_any (nd_type I hn) PySem.F.slot_dict_getitem.lookup (nd_getItem hu I hn hk hd hv fun w' s' I' r' => ⟨z, H, I', r', q⟩) hs
theorem mt_getN (hu : X.A.units + 9 < cLine) : MtM X "dict.get" (rGetN X.prog X.w X.K) := by
  intro pins s σ H x vs v us Q I rx rv h
  obtain ⟨a, b, xs, k, rfl, rfl, hn, hk, hd, qq⟩ := h
  cases rx
  obtain ⟨u, rfl, ru⟩ := rv.one
  cases ru
  exact nd_get hu I hn hk hd fun w' s3 I3 rw' => ⟨_, H, I3, rw', qq⟩
theorem mt_popN (hu : X.A.units + 9 < cLine) : MtM X "dict.pop" (rPopN X.prog X.w X.K) := by
  intro pins s σ H x vs v us Q I rx rv h
  obtain ⟨a, b, xs, k, z, rfl, rfl, hn, hk, hd, hv, qq⟩ := h
  cases rx
  obtain ⟨u, rfl, ru⟩ := rv.one
  cases ru
  exact nd_pop hu I hn hk hd hv fun w' s3 I3 rw' => ⟨_, _, I3, rw', qq⟩
theorem set_nd (hu : X.A.units + 9 < cLine) : PSet X (rSetN X.prog X.w X.K) := by
  intro pins s σ H o i v ov iv u Q I ro ri rv h
  obtain ⟨a, b, xs, k, rfl, rfl, hn, hk, hd, hl, q⟩ := h
  cases ro
  cases ri
  exact nd_setItem hu I hn hk hd hl rv fun s' I' => ⟨_, I', q⟩
end
/-! ### the evaluator's operations -/
section
variable {g : Gs} {W : WX} {m : List Addr} {H : Hp} {h : List Ob} {Q : VK}
theorem inN_ok {n : Nat} {x : Uv} {a b : V} {f : Bool → Bool} (hr : HR g m H h) (rx : VR g m H x a) (ry : VR g m H (.obj n) b) (s : Sat g W m H (inN x n h f) (VPost g Q)) : rInN g.P g.w g.K f a b H Q := by
  unfold inN at s
  split at s
  · rename_i i kvs e
    obtain ⟨c, s⟩ := ite_satb s
    rw [Bool.and_eq_true] at c
    obtain ⟨p, xs, rfl, _, _, r, d⟩ := hr.getN ry e (Nat.eq_of_beq_eq_true c.1)
    obtain ⟨b', k, rfl, e1, e2, e3⟩ := key_ref c.2 rx
    exact ⟨p, b', xs, k, rfl, rfl, d, e3, e2, by rw [← nks_some e1 r]; exact same_ok hr s rfl⟩
  · rename_i e
    obtain ⟨c, s⟩ := ite_satb s
    obtain ⟨p, rfl, _, _, d⟩ := hr.getE ry e
    obtain ⟨b', k, rfl, e1, e2, e3⟩ := key_ref c rx
    exact ⟨p, b', [], k, rfl, rfl, d, e3, e2, same_ok hr s rfl⟩
  · exact s.no.elim
theorem subN_ok {n : Nat} {x : Uv} {a b : V} (hr : HR g m H h) (rx : VR g m H x a) (ry : VR g m H (.obj n) b) (s : Sat g W m H (subN n x h) (VPost g Q)) : rSubN g.P g.w g.K b a H Q := by
  unfold subN at s
  split at s
  · rename_i i kvs e
    obtain ⟨c, s⟩ := ite_satb s
    rw [Bool.and_eq_true] at c
    obtain ⟨p, xs, rfl, _, _, r, d⟩ := hr.getN ry e (Nat.eq_of_beq_eq_true c.1)
    obtain ⟨b', k, rfl, e1, e2, e3⟩ := key_ref c.2 rx
    split at s
    · rename_i u eu
      rcases nks_at e1 r with ⟨z, _⟩ | ⟨w, v, z1, z2, z3⟩
      · rw [eu] at z; cases z
      · rw [eu] at z1; cases z1
        exact ⟨p, b', xs, k, v, rfl, rfl, d, e3, e2, z2, same_ok hr s z3⟩
    · exact s.no.elim
  · exact s.no.elim
/-- d[k] = v -/
theorem putD_ok {n : Nat} {x u : Uv} {h' : List Ob} {a b v : V} (hr : HR g m H h) (e : putD n x u h = some h') (ro : VR g m H (.obj n) a) (rx : VR g m H x b) (ru : VR g m H u v) :
    ∃ p H', a = .ref p ∧ m[n]? = some p ∧ Le g m H m H' ∧ HR g m H' h' ∧ ((∃ l k, H p = some (.dK l) ∧ b = kV k ∧ l.length < sizeLine ∧ H' = upd H p (.dK (putK l k v))) ∨
      ∃ c xs k, b = .ref c ∧ NdAt g.P g.w g.K H p xs ∧ NkV g.K H k (.ref c) ∧ k.depth ≤ 8 ∧ xs.length < sizeLine ∧ H' = upd H p (NdO g.P g.w p (putN xs k c v))) := by
  unfold putD at e
  split at e
  · rename_i kvs e0
    split at e
    · rename_i key ek
      split at e
      · rename_i ct
        cases e
        obtain ⟨p, l, rfl, hn, k1, hx⟩ := hr.getD ro e0
        have hset : KRs g m H (gPut kvs key u) (putK l key v) := gPut_ok ru hx
        exact ⟨p, _, rfl, hn, Le.set hr hn e0, hr.set hn e0 ⟨_, rfl, hset⟩, .inl ⟨l, key, k1, key_ok ek rx, by rw [← hx.length]; exact lim_lt ct, rfl⟩⟩
      · cases e
    · split at e
      · split at e
        · rename_i ct
          cases e
          obtain ⟨p, rfl, hn, k1, d⟩ := hr.getE ro e0
          obtain ⟨c, k, rfl, e1, e2, e3⟩ := key_ref ct rx
          have hk := nks_put (kvs := []) (xs := []) e1 e2 rx ru rfl
          exact ⟨p, upd H p (NdO g.P g.w p (putN [] k c v)), rfl, hn, Le.set hr hn e0, hr.set hn e0 ⟨p, _, hn, rfl, hk⟩, .inr ⟨c, [], k, rfl, d, e3, e2, by decide, rfl⟩⟩
        · cases e
      · cases e
  · rename_i i kvs e0
    split at e
    · rename_i ct
      cases e
      rw [Bool.and_eq_true, Bool.and_eq_true] at ct
      obtain ⟨p, xs, rfl, hn, k1, r, d⟩ := hr.getN ro e0 (Nat.eq_of_beq_eq_true ct.1.1)
      obtain ⟨c, k, rfl, e1, e2, e3⟩ := key_ref ct.1.2 rx
      have hk := nks_put e1 e2 rx ru r
      exact ⟨p, upd H p (NdO g.P g.w p (putN xs k c v)), rfl, hn, Le.set hr hn e0, hr.set hn e0 ⟨p, _, hn, rfl, hk⟩, .inr ⟨c, xs, k, rfl, d, e3, e2, by rw [← r.length]; exact lim_lt (Nat.blt_eq.mp ct.2), rfl⟩⟩
    · cases e
  · cases e
end
end Rf
set_option maxHeartbeats 4000000
namespace Rf
open PySem PySem.Spec PyProof.Rows L2
section
variable {g : Gs} {W : WX} {m : List Addr} {H : Hp} {h : List Ob} {Q : VK}
/-! ### comparisons -/
def rInT (K : PySem.W.Frag) (f : Bool → Bool) : R2 := fun x y H Q => ∃ d ds, Dp K H x d ∧ Dp K H y (.tuple ds) ∧ SeqAt.shaped d = true ∧ SeqAt.shaped (.tuple ds) = true ∧ Q (.bl (f (ds.any fun z => PyData.eqv z d))) H
theorem op_inT {X : Cx} (hu : X.A.units + 65 < cLine) : OpR X (compareOp .In) (rInT X.K id) := by
  intro pins s σ H x y v u Q I rx ry h
  obtain ⟨d, ds, hd, he, sd, se, q⟩ := h
  obtain ⟨as, r1⟩ := Dp.reads I d x v hd rx
  obtain ⟨bs, r2⟩ := Dp.reads I (.tuple ds) y u he ry
  exact SeqAt.in_tuple_reads r2 r1 (SeqAt.canLay_of_shaped se) (SeqAt.canLay_of_shaped sd) (room_in_shaped sd hu) ⟨.bl _, H, I, rfl, q⟩
theorem op_notInT {X : Cx} (hu : X.A.units + 65 < cLine) : OpR X (compareOp .NotIn) (rInT X.K not) := by
  intro pins s σ H x y v u Q I rx ry h
  obtain ⟨d, ds, hd, he, sd, se, q⟩ := h
  obtain ⟨as, r1⟩ := Dp.reads I d x v hd rx
  obtain ⟨bs, r2⟩ := Dp.reads I (.tuple ds) y u he ry
  exact SeqAt.notIn_tuple_reads r2 r1 (SeqAt.canLay_of_shaped se) (SeqAt.canLay_of_shaped sd) (room_in_shaped sd hu) ⟨.bl _, H, I, rfl, q⟩
/-- dicts, one of them empty -/
def rEqE : R2 := fun x y H Q => ∃ (a b : Addr) (ka kb : List (Key × V)), x = .ref a ∧ y = .ref b ∧ H a = some (.dK ka) ∧ H b = some (.dK kb) ∧ (ka = [] ∨ kb = []) ∧ Q (.bl (ka.length == kb.length)) H
theorem op_eqE {X : Cx} (hu : X.A.units < cLine) : OpR X (compareOp .Eq) rEqE := by
  intro pins s σ H x y v u Q I rx ry h
  obtain ⟨a, b, ka, kb, rfl, rfl, ha, hb, he, q⟩ := h
  cases rx
  cases ry
  obtain ⟨_, na, va, pa, da⟩ := dk_of I.hok ha
  obtain ⟨_, nb, vb, pb, db⟩ := dk_of I.hok hb
  have la : ka.length = va.length := Paired.length pa
  have lb : kb.length = vb.length := Paired.length pb
  show wpAny _ _ (richCompare .Eq (.ref a) (.ref b)) _ _ s
  refine PySem.W.rcP_dicts (r := true) na nb da db hu (fun hl => ?_) _ _ ⟨.bl _, H, I, rfl, by rw [← la, ← lb, Bool.and_true]; exact q⟩
  have e : va = [] := by
    rcases he with e | e
    · rw [e] at la
      exact List.length_eq_zero_iff.mp la.symm
    · rw [e] at lb
      exact List.length_eq_zero_iff.mp (by rw [hl, ← lb] <;> rfl)
  rw [e]
  exact .nil
def rInA (P : Program) (w : World) (K : PySem.W.Frag) : R2 := fun x y H Q => (∃ i j, x = .str i ∧ y = .str j ∧ Q (.bl (!(Builtin.Str.occurrences j i 0 j.length 1).isEmpty)) H) ∨ (∃ a o, y = .ref a ∧ DGet H a x o ∧ Q (.bl o.isSome) H) ∨ rInT K id x y H Q ∨ rInD K x y H Q ∨ rInN P w K id x y H Q
def rNotInA (P : Program) (w : World) (K : PySem.W.Frag) : R2 := fun x y H Q => (∃ a o, y = .ref a ∧ DGet H a x o ∧ Q (.bl (!o.isSome)) H) ∨ rInT K not x y H Q ∨ rNotInD K x y H Q ∨ rInN P w K not x y H Q
def rCmp (P : Program) (w : World) (K : PySem.W.Frag) : CmpOp → R2
  | .Lt => rI0 fun i j => .bl (decide (i < j))
  | .LtE => rI0 fun i j => .bl (decide (i ≤ j))
  | .Gt => rI0 fun i j => .bl (decide (j < i))
  | .GtE => rI0 fun i j => .bl (decide (j ≤ i))
  | .Eq => fun x y H Q => rEq x y H Q ∨ rEqD K x y H Q ∨ rEqE x y H Q
  | .NotEq => fun x y H Q => rNe x y H Q ∨ rNeD K x y H Q
  | .Is => fun x y H Q => y = .non ∧ Q (.bl (decide (x = .non))) H
  | .IsNot => fun x y H Q => y = .non ∧ Q (.bl (!decide (x = .non))) H
  | .In => rInA P w K
  | .NotIn => rNotInA P w K
theorem op_inDict {X : Cx} (hu : X.A.units + 1 < cLine) : OpR X (compareOp .In) (fun x y H Q => ∃ a o, y = .ref a ∧ DGet H a x o ∧ Q (.bl o.isSome) H) := by
  intro pins s σ H x y v u Q I rx ry h
  obtain ⟨a, o, rfl, d, q⟩ := h
  cases ry
  exact d_in hu I d rx fun s' I' => ⟨.bl _, H, I', rfl, q⟩
theorem op_notInDict {X : Cx} (hu : X.A.units + 1 < cLine) : OpR X (compareOp .NotIn) (fun x y H Q => ∃ a o, y = .ref a ∧ DGet H a x o ∧ Q (.bl (!o.isSome)) H) := by
  intro pins s σ H x y v u Q I rx ry h
  obtain ⟨a, o, rfl, d, q⟩ := h
  cases ry
  exact d_notIn hu I d rx fun s' I' => ⟨.bl _, H, I', rfl, q⟩
theorem op_cmp {X : Cx} (hu : X.A.units + 65 < cLine) : ∀ o, OpR X (compareOp o) (rCmp X.prog X.w X.K o)
  | .Lt => op_lt
  | .LtE => op_le
  | .Gt => op_gt
  | .GtE => op_ge
  | .Eq => op_eq.or ((op_eqD (by omega)).or (op_eqE (by omega)))
  | .NotEq => op_ne.or (op_neD (by omega))
  | .Is => op_isN
  | .IsNot => op_notN
  | .In => op_in_str.or ((op_inDict (by omega)).or ((op_inT hu).or ((op_inD hu).or (op_inN (by omega)))))
  | .NotIn => (op_notInDict (by omega)).or ((op_notInT hu).or ((op_notInD hu).or (op_notInN (by omega))))
theorem dec_int (i j : Int) : decide (V.int i = V.int j) = (i == j) := by
  by_cases h : i = j
  · subst h; simp
  · simp [h]
theorem dec_str (i j : Str) : decide (V.str i = V.str j) = (i == j) := by
  by_cases h : i = j
  · subst h; simp
  · simp [h]
theorem isN_ok {x : Uv} {a : V} (r : VR g m H x a) (na : ∀ us, x = .alt us → False) : (match x with | .non => true | _ => false) = decide (a = .non) := by
  cases x with
  | non => cases r; simp
  | bl b => cases r; simp
  | int b => cases r; simp
  | str b => cases r; simp
  | ty b => cases r; simp
  | glb b => cases r; simp
  | alt b => exact (na b rfl).elim
  | tup b => obtain ⟨p, ys, rfl, _⟩ := r; simp
  | obj b => obtain ⟨p, rfl, _⟩ := r; simp
theorem dget_ok (hr : HR g m H h) {n : Nat} {x : Uv} {a b : V} {kvs : List (Key × Uv)} {k : Key} (e : h[n]? = some (.dic kvs)) (ek : keyU x = some k) (rx : VR g m H x a) (ry : VR g m H (.obj n) b) :
    ∃ p l, b = .ref p ∧ KRs g m H kvs l ∧ DGet H p a (valV l k) := by
  obtain ⟨p, l, rfl, _, e1, r⟩ := hr.getD ry e
  exact ⟨p, l, rfl, r, by rw [key_ok ek rx]; exact DGet.k e1⟩
theorem dgetL_ok (hr : HR g m H h) {n : Nat} {x : Uv} {a b : V} {kvs : List (Key × Uv)} {k : Key} (e : h[n]? = some (.dicL kvs)) (ek : keyU x = some k) (rx : VR g m H x a) (ry : VR g m H (.obj n) b) :
    ∃ p l, b = .ref p ∧ KRs g m H kvs l ∧ DGet H p a (valV l k) := by
  obtain ⟨p, od, l, rfl, _, e1, r⟩ := hr.getK ry e
  exact ⟨p, l, rfl, r, by rw [key_ok ek rx]; exact .inl ⟨l, k, .inr ⟨od, e1⟩, rfl, rfl⟩⟩
theorem inD_ok {x y : Uv} {a b : V} {f : Bool → Bool} (hr : HR g m H h) (rx : VR g m H x a) (ry : VR g m H y b) (s : Sat g W m H (inD x y h f) (VPost g Q)) :
    rInT g.K f a b H Q ∨ ∃ d ds, Dp g.K H a d ∧ Dp g.K H b (.list ds) ∧ SeqAt.shaped d = true ∧ SeqAt.shaped (.list ds) = true ∧ Q (.bl (f (ds.any fun z => PyData.eqv z d))) H := by
  unfold inD at s
  split at s
  · rename_i d ds e1 e2
    obtain ⟨c, s⟩ := ite_satb s
    rw [Bool.and_eq_true] at c
    exact .inl ⟨d, ds, toD_ok hr 200 _ _ _ rx e1, toD_ok hr 200 _ _ _ ry e2, c.1, c.2, same_ok hr s rfl⟩
  · rename_i d ds e1 e2
    obtain ⟨c, s⟩ := ite_satb s
    rw [Bool.and_eq_true] at c
    exact .inr ⟨d, ds, toD_ok hr 200 _ _ _ rx e1, toD_ok hr 200 _ _ _ ry e2, c.1, c.2, same_ok hr s rfl⟩
  · exact s.no.elim
theorem cmp_ok {o : CmpOp} {x y : Uv} {a b : V} (hr : HR g m H h) (rx : VR g m H x a) (ry : VR g m H y b) (s : Sat g W m H (evCmp o x y h) (VPost g Q)) : rCmp g.P g.w g.K o a b H Q := by
  unfold evCmp at s
  split at s
  · cases rx; cases ry; exact ⟨_, _, rfl, rfl, same_ok hr s rfl⟩
  · cases rx; cases ry; exact ⟨_, _, rfl, rfl, same_ok hr s rfl⟩
  · cases rx; cases ry; exact ⟨_, _, rfl, rfl, same_ok hr s rfl⟩
  · cases rx; cases ry; exact ⟨_, _, rfl, rfl, same_ok hr s rfl⟩
  · cases rx; cases ry; exact .inl ⟨rfl, by rw [dec_int]; exact same_ok hr s rfl⟩
  · cases rx; cases ry; exact .inl ⟨rfl, by rw [dec_int]; exact same_ok hr s rfl⟩
  · cases rx; cases ry; exact .inl ⟨rfl, by rw [dec_str]; exact same_ok hr s rfl⟩
  · cases rx; cases ry; exact .inl ⟨rfl, by rw [dec_str]; exact same_ok hr s rfl⟩
  · split at s
    · rename_i b0 eb
      unfold eqE at eb
      split at eb
      · split at eb
        · rename_i n1 n2 ka kb e1 e2
          obtain ⟨p, l, rfl, _, k1, hx⟩ := hr.getD rx e1
          obtain ⟨p2, l2, rfl, _, k2, hx2⟩ := hr.getD ry e2
          split at eb
          · rename_i hc
            cases eb
            rw [Bool.or_eq_true, List.isEmpty_iff, List.isEmpty_iff] at hc
            refine .inr (.inr ⟨p, p2, l, l2, rfl, rfl, k1, k2, ?_, ?_⟩)
            · rcases hc with hc | hc
              · left
                exact List.length_eq_zero_iff.mp (by rw [← hx.length, hc] <;> rfl)
              · right
                exact List.length_eq_zero_iff.mp (by rw [← hx2.length, hc] <;> rfl)
            · have z : (l.length == l2.length) = (ka.isEmpty && kb.isEmpty) := by
                rw [← hx.length, ← hx2.length]
                rcases hc with hc | hc
                · rw [hc]
                  cases kb <;> rfl
                · rw [hc]
                  cases ka <;> rfl
              rw [z]
              exact same_ok hr s rfl
          · cases eb
        · cases eb
      · cases eb
    · exact .inr (.inl (both_ok hr rx ry s))
  · exact .inr (both_ok hr rx ry s)
  · cases ry
    refine ⟨rfl, ?_⟩
    split at s
    · exact s.no.elim
    · have z := isN_ok rx (fun _ e => by cases e)
      rw [← z]; exact same_ok hr s rfl
    · rename_i na hn
      have z := isN_ok rx na
      have e : decide (a = V.non) = false := by
        rw [← z]
        split
        · exact absurd rfl (hn)
        · rfl
      rw [e]; exact same_ok hr s rfl
  · cases ry
    refine ⟨rfl, ?_⟩
    split at s
    · exact s.no.elim
    · have z := isN_ok rx (fun _ e => by cases e)
      rw [← z]; exact same_ok hr s rfl
    · rename_i na hn
      have z := isN_ok rx na
      have e : decide (a = V.non) = false := by
        rw [← z]
        split
        · exact absurd rfl (hn)
        · rfl
      rw [e]; exact same_ok hr s rfl
  · cases rx; cases ry
    rw [inS_eq] at s
    exact .inl ⟨_, _, rfl, rfl, same_ok hr s rfl⟩
  · split at s
    · rename_i kvs k e1 e2
      obtain ⟨p, l, rfl, r, d⟩ := dget_ok hr e1 e2 rx ry
      exact .inr (.inl ⟨p, _, rfl, d, by rw [gVal_isSome k r]; exact same_ok hr s rfl⟩)
    · rename_i kvs k e1 e2
      obtain ⟨p, l, rfl, r, d⟩ := dgetL_ok hr e1 e2 rx ry
      exact .inr (.inl ⟨p, _, rfl, d, by rw [gVal_isSome k r]; exact same_ok hr s rfl⟩)
    · exact .inr (.inr ((inD_ok hr rx ry s).imp id .inl))
    · exact .inr (.inr (.inr (.inr (inN_ok hr rx ry s))))
  · exact .inr (.inr ((inD_ok hr rx ry s).imp id .inl))
  · exact .inr ((inD_ok hr rx ry s).imp id .inl)
  · split at s
    · rename_i kvs k e1 e2
      obtain ⟨p, l, rfl, r, d⟩ := dget_ok hr e1 e2 rx ry
      exact .inl ⟨p, _, rfl, d, by rw [gVal_isSome k r]; exact same_ok hr s rfl⟩
    · rename_i kvs k e1 e2
      obtain ⟨p, l, rfl, r, d⟩ := dgetL_ok hr e1 e2 rx ry
      exact .inl ⟨p, _, rfl, d, by rw [gVal_isSome k r]; exact same_ok hr s rfl⟩
    · exact .inr ((inD_ok hr rx ry s).imp id .inl)
    · exact .inr (.inr (.inr (inN_ok hr rx ry s)))
  · exact s.no.elim

/-! ### x[i], x[a:b] -/
def rSub (P : Program) (w : World) (K : PySem.W.Frag) : R2 := fun x y H Q => rIx K x y H Q ∨ (∃ a v, x = .ref a ∧ DGet H a y (some v) ∧ Q v H) ∨ rSubN P w K x y H Q
theorem ix_dict {X : Cx} (hu : X.A.units + 1 < cLine) : IxR X (fun x y H Q => ∃ a v, x = .ref a ∧ DGet H a y (some v) ∧ Q v H) := by
  intro value slice pins s σ H x y v u Q I rx ry h hs
  obtain ⟨a, z, rfl, d, q⟩ := h
  cases rx
  exact tail_any (dict_typeIs I d) PySem.F.slot_dict_getitem.lookup (d_getItem hu I d ry fun w' s' I' r' => ⟨z, H, I', r', q⟩) hs
theorem ix_sub {X : Cx} (hu : X.A.units + 9 < cLine) : IxR X (rSub X.prog X.w X.K) := ix_seq.or ((ix_dict (by omega)).or (ix_nd hu))
theorem atI_ok {xs : List Uv} {ys : List V} {j : Int} {u : Uv} (r : VRs g m H xs ys) (e : atI xs j = some u) : ∃ v, atI ys j = some v ∧ VR g m H u v := by
  unfold atI at e ⊢
  rw [← r.length]
  cases hn : ixN xs.length j with
  | none => rw [hn] at e; cases e
  | some k =>
    rw [hn] at e
    exact r.get e
theorem sub_ok {x i : Uv} {a b : V} (hr : HR g m H h) (rx : VR g m H x a) (ry : VR g m H i b) (s : Sat g W m H (evSub x i h) (VPost g Q)) : rSub g.P g.w g.K a b H Q := by
  unfold evSub at s
  split at s
  · obtain ⟨p, ys, rfl, hp, hx⟩ := rx
    cases ry
    split at s
    · rename_i u e
      obtain ⟨v, e1, rv⟩ := atI_ok hx e
      exact .inl (.inr (.inl ⟨p, ys, _, v, rfl, rfl, hp, e1, same_ok hr s rv⟩))
    · exact s.no.elim
  · split at s
    · rename_i xs e0
      split at s
      · cases ry
        split at s
        · rename_i u e
          obtain ⟨p, ys, rfl, _, k1, hx⟩ := hr.getL rx e0
          obtain ⟨v, e1, rv⟩ := atI_ok hx e
          exact .inl (.inl ⟨p, ys, _, v, rfl, rfl, SqL.of k1, e1, same_ok hr s rv⟩)
        · exact s.no.elim
      · exact s.no.elim
    · rename_i kvs e0
      split at s
      · rename_i k ek
        split at s
        · rename_i u e
          obtain ⟨p, l, rfl, r, d⟩ := dget_ok hr e0 ek ry rx
          have z := gVal_ok k r
          rw [e] at z
          obtain ⟨v, e1, rv⟩ := z
          rw [e1] at d
          exact .inr (.inl ⟨p, v, rfl, d, same_ok hr s rv⟩)
        · exact s.no.elim
      · exact s.no.elim
    · rename_i kvs e0
      split at s
      · rename_i k ek
        split at s
        · rename_i u e
          obtain ⟨p, l, rfl, r, d⟩ := dgetL_ok hr e0 ek ry rx
          have z := gVal_ok k r
          rw [e] at z
          obtain ⟨v, e1, rv⟩ := z
          rw [e1] at d
          exact .inr (.inl ⟨p, v, rfl, d, same_ok hr s rv⟩)
        · exact s.no.elim
      · exact s.no.elim
    · exact .inr (.inr (subN_ok hr ry rx s))
  · exact s.no.elim
def rSlc (K : PySem.W.Frag) : V → Option Int → Option Int → Hp → VK → Prop := fun x lo hi H Q => rSlA K x lo hi H Q ∨ rSlL K x lo hi H Q
theorem sl_slc {X : Cx} : SlR X (rSlc X.K) := sl_tupA.or sl_list
theorem cut_ok {xs : List Uv} {ys : List V} (lo hi : Option Int) (r : VRs g m H xs ys) : VRs g m H (cutU xs lo hi) (cutV ys lo hi) := by
  unfold cutU cutV
  rw [← r.length]
  exact (r.drop _).take _
theorem cut_all {xs : List V} {lo hi : Option Int} (h1 : HT.sIx xs.length 0 lo = 0) (h2 : HT.sIx xs.length xs.length hi = xs.length) : cutV xs lo hi = xs := by
  unfold cutV
  rw [h1, h2, List.drop_zero, Nat.sub_zero, List.take_length]
theorem slc_ok {x : Uv} {a : V} {lo hi : Option Int} (hr : HR g m H h) (rx : VR g m H x a) (s : Sat g W m H (evSlc x lo hi h) (VPost g Q)) : rSlc g.K a lo hi H Q := by
  unfold evSlc at s
  split at s
  · obtain ⟨p, ys, rfl, hp, hx⟩ := rx
    refine .inl ⟨p, ys, rfl, hp, fun c => ?_, fun _ q hq => tup_ok hr s hq (cut_ok lo hi hx)⟩
    refine same_ok hr s ⟨p, ys, rfl, hp, ?_⟩
    have z := cut_ok lo hi hx
    rw [cut_all c.1 c.2] at z
    exact z
  · split at s
    · rename_i xs e
      obtain ⟨p, ys, rfl, _, k1, hx⟩ := hr.getL rx e
      exact .inr ⟨p, ys, rfl, SqL.of k1, fun q hq => alloc_ok hr s hq ⟨_, rfl, cut_ok lo hi hx⟩⟩
    · exact s.no.elim
  · exact s.no.elim
/-! ### truth -/
theorem VRs.isEmpty {xs : List Uv} {ys : List V} (r : VRs g m H xs ys) : (!xs.isEmpty) = !ys.isEmpty := by
  cases xs with
  | nil => rw [show ys = [] from r] <;> rfl
  | cons x xs => obtain ⟨y, t, rfl, _⟩ := r; rfl
theorem KRs.isEmpty {xs : List (Key × Uv)} {ys : List (Key × V)} (r : KRs g m H xs ys) : (!xs.isEmpty) = !ys.isEmpty := by
  cases xs with
  | nil => rw [show ys = [] from r] <;> rfl
  | cons x xs => obtain ⟨k, x⟩ := x; obtain ⟨y, t, rfl, _⟩ := r; rfl
theorem tru_ok' {x : Uv} {a : V} {b : Bool} (hr : HR g m H h) (rx : VR g m H x a) (e : truU x h = some b) : TruV g.K a H b := by
  unfold truU at e
  split at e
  · cases e; cases rx; exact rfl
  · cases e; cases rx; exact rfl
  · cases e; cases rx; exact rfl
  · cases e
    obtain ⟨p, ys, rfl, hp, hx⟩ := rx
    exact .inr (.inl ⟨ys, hp, hx.isEmpty⟩)
  · split at e
    · rename_i xs e0
      cases e
      obtain ⟨p, ys, rfl, _, k1, hx⟩ := hr.getL rx e0
      exact .inl ⟨ys, SqL.of k1, hx.isEmpty⟩
    · rename_i xs e0
      cases e
      obtain ⟨p, ys, rfl, _, k1, hx⟩ := hr.getD rx e0
      exact .inr (.inr ⟨ys, k1, hx.isEmpty⟩)
    · cases e
  · cases e
end
end Rf
set_option maxHeartbeats 4000000
namespace RfS
open PySem PySem.Spec PyProof.Rows L2 Rf
/-! set(xs) of ints and texts, by its count -/
theorem ddK_snoc (l : List Key) (k : Key) : ddK (l ++ [k]) = addKy (ddK l) k := by unfold ddK; rw [List.foldl_append] <;> rfl
theorem take_snoc {l : List Key} {i : Nat} {k : Key} (h : l[i]? = some k) : l.take (i + 1) = l.take i ++ [k] := by rw [List.take_add_one, h] <;> rfl
theorem addKy_has (l : List Key) (k k' : Key) : hasK (addKy l k) k' = (hasK l k' || decide (k' = k)) := by
  unfold addKy
  by_cases c : hasK l k = true
  · rw [if_pos c]
    by_cases e : k' = k
    · subst e; rw [c] <;> rfl
    · simp [e]
  · rw [if_neg c]
    unfold hasK
    rw [List.any_append]
    by_cases e : k' = k
    · subst e; simp
    · have e' : ¬ k = k' := fun z => e z.symm
      simp [e, e']
theorem addKy_len (l : List Key) (k : Key) : (addKy l k).length = if hasK l k then l.length else l.length + 1 := by
  unfold addKy
  split <;> simp
theorem addKy_le (l : List Key) (k : Key) : (addKy l k).length ≤ l.length + 1 := by rw [addKy_len]; split <;> omega
theorem ddK_le (l : List Key) : (ddK l).length ≤ l.length := by
  have go : ∀ (l acc : List Key), (l.foldl addKy acc).length ≤ acc.length + l.length := by
    intro l
    induction l with
    | nil => intro acc; simp
    | cons x r ih =>
      intro acc
      have h1 := ih (addKy acc x)
      have h2 := addKy_le acc x
      simp only [List.foldl_cons, List.length_cons]
      omega
  simpa [ddK] using go l []
def KeysAre (us : List Value) (xs : List Key) : Prop := xs.length = us.length ∧ ∀ (i : Nat) (v : Value), us[i]? = some v → ∃ k, xs[i]? = some k ∧ keyIs k v = true
theorem keyIs_scan {k : Key} {v : Value} (h : keyIs k v = true) : v.scannable = true := by
  rcases keyIs_shape h with ⟨i, t, rfl, rfl⟩ | ⟨x, t, rfl, rfl⟩ <;> rfl
section
variable {prog : Program} {w : World} {A : Around} {R : Result → Shared → Prop} {I : Addr} {fp wr : List Addr} {G : Array GenState → Array GenState → Prop} {n : Nat} {P : Nat → Value → Prop} {St : Nat → Shared → Prop}
theorem loopK (W : WalksS prog w A.in1 I fp wr G n P St) (S : Addr) (hSf : S ∉ fp) (xs : List Key) (hsz : xs.length = n) (hn1 : n + 1 < scanBound)
    (hval : ∀ i v, P i v → ∃ k, xs[i]? = some k ∧ keyIs k v = true) :
    ∀ (k i : Nat) (s : Shared), n - i = k → i ≤ n → St i s →
      s.heap.SetOf (mixKind prog w) S (hasK (ddK (xs.take i))) (ddK (xs.take i)).length →
      (∀ s', Moved (S :: wr) G s s' → s'.heap.SetOf (mixKind prog w) S (hasK (ddK xs)) (ddK xs).length → R (.ok (.ret .none)) s') →
      codeAny (model prog w) A (.builtin "set.update.loop" ⟨[.ref S, .ref I], []⟩) R s := by
  have hSw : S ∉ wr := fun h => hSf (W.sub _ h)
  have hsub : ∀ b ∈ wr, b ∈ S :: wr := fun b hb => List.mem_cons_of_mem _ hb
  intro k
  induction k with
  | zero =>
    intro i s hk hi hst hS hR
    obtain rfl : i = n := by omega
    have hfull : xs.take i = xs := List.take_of_length_le (Nat.le_of_eq hsz)
    rw [hfull] at hS
    refine codeAny_builtin PyProof.Rows.F.entry_set_update_loop ?_
    rw [Around.under_plainId PyProof.Rows.F.plain_set_update_loop _]
    show wpAny _ A.in1 (pyNext (.ref I) >>= _) _ _ s
    refine wpAny_bind (W.done s _ _ hst fun s' hm => ?_)
    show wpAny _ A.in1 (ret Value.none) _ _ s'
    exact wpAny_pure (hR s' (hm.mono hsub) (by
      obtain ⟨o, es, ep, t, ho, rest⟩ := hS
      exact ⟨o, es, ep, t, hm.heap S _ hSw ho, rest⟩))
  | succ k ih =>
    intro i s hk hi hst hS hR
    have hlt : i < n := by omega
    refine codeAny_builtin PyProof.Rows.F.entry_set_update_loop ?_
    rw [Around.under_plainId PyProof.Rows.F.plain_set_update_loop _]
    show wpAny _ A.in1 (pyNext (.ref I) >>= _) _ _ s
    refine wpAny_bind (W.item i s _ _ hlt hst fun v s' hP hst' hm => ?_)
    obtain ⟨key, hx, hkey⟩ := hval i v hP
    have hS' : s'.heap.SetOf (mixKind prog w) S (hasK (ddK (xs.take i))) (ddK (xs.take i)).length := by
      obtain ⟨o, es, ep, tb, ho, rest⟩ := hS
      exact ⟨o, es, ep, tb, hm.heap S _ hSw ho, rest⟩
    show wpAny _ A.in1 (holding [v] (setAdd S v) >>= _) _ _ s'
    refine wpAny_bind (wpAny_holding ?_)
    unfold setAdd
    refine wpAny_holding ?_
    refine wpAny_bind ((mixKind prog w).pyHash (k := key) hkey ?_)
    have hle := ddK_le (xs.take i)
    rw [List.length_take] at hle
    refine wpAny_setAddHashed_of (knd := mixKind prog w) (s := { s' with toks := s'.toks + 1 }) hkey (keyIs_scan hkey) hS' (by omega) fun h' hsb hS2 => ?_
    have hSi : h'.SetOf (mixKind prog w) S (hasK (ddK (xs.take (i + 1)))) (ddK (xs.take (i + 1))).length := by
      rw [take_snoc hx, ddK_snoc, addKy_len, show hasK (addKy (ddK (xs.take i)) key) = fun k' => hasK (ddK (xs.take i)) k' || decide (k' = key) from funext fun k' => addKy_has _ _ _]
      exact hS2
    refine wpAny_pure ⟨plainId_quiet PyProof.Rows.F.plain_set_update_loop _, ih (i + 1) _ (by omega) hlt (W.frame _ s' _ _ hst' (Nat.le_succ _) fun b hb o e => ?_) hSi fun s'' hm'' hS'' => ?_⟩
    · rw [hsb.2 b (fun h : b = S => hSf (by rw [← h]; exact hb))]; exact e
    · refine hR s'' (Moved.trans W.gtrans ((hm.mono hsub).then_heap (Nat.le_succ _) fun b o hb e => ?_) hm'') hS''
      rw [hsb.2 b (fun h : b = S => hb (by rw [h]; exact List.mem_cons_self))]; exact e
end
theorem setOf_cg {prog : Program} {w : World} {h : Heap} {a : Addr} {S S' : Key → Bool} {n n' : Nat} (hS : h.SetOf (mixKind prog w) a S n) (e : ∀ k, S k = S' k) (en : n = n') : h.SetOf (mixKind prog w) a S' n' := by
  obtain rfl : S = S' := funext e
  subst en
  exact hS
theorem fresh_set {prog : Program} {w : World} {h : Heap} {a : Addr} {led : Bool} (ho : h.get? a = some { cls := .type "set", dict := none, data := .set #[] 0 (.fresh 0 0 led) }) : h.SetOf (mixKind prog w) a (fun _ => false) 0 :=
  ⟨_, #[], 0, _, ho, ⟨rfl, rfl, rfl⟩, rfl, fun e he => by simp at he, fun k => by simp, by unfold scanBound; simp, by rfl, rfl⟩
end RfS
set_option maxHeartbeats 4000000
namespace Rf
open PySem PySem.Spec PyProof.Rows L2 RfS
section
variable {g : Gs} {W : WX} {m : List Addr} {H : Hp} {h : List Ob} {Q : VK}
/-! ### sorting -/
theorem insI_perm (x : Int) : ∀ l : List Int, (insI x l).Perm (x :: l)
  | [] => List.Perm.refl _
  | y :: r => by
    unfold insI
    split
    · exact List.Perm.refl _
    · exact ((insI_perm x r).cons y).trans (List.Perm.swap x y r)
theorem srtI_perm : ∀ l : List Int, (srtI l).Perm l
  | [] => List.Perm.refl _
  | x :: r => (insI_perm x _).trans ((srtI_perm r).cons x)
theorem insI_pw (x : Int) : ∀ l : List Int, l.Pairwise (· ≤ ·) → (insI x l).Pairwise (· ≤ ·)
  | [], _ => by simp [insI]
  | y :: r, h => by
    unfold insI
    have h1 := List.pairwise_cons.mp h
    split
    · rename_i c
      refine List.pairwise_cons.mpr ⟨fun z hz => ?_, h⟩
      rcases List.mem_cons.mp hz with e | e
      · subst e; exact c
      · exact Int.le_trans c (h1.1 z e)
    · rename_i c
      refine List.pairwise_cons.mpr ⟨fun z hz => ?_, insI_pw x r h1.2⟩
      rcases List.mem_cons.mp ((insI_perm x r).mem_iff.mp hz) with e | e
      · subst e; omega
      · exact h1.1 z e
theorem srtI_pw : ∀ l : List Int, (srtI l).Pairwise (· ≤ ·)
  | [] => List.Pairwise.nil
  | x :: r => insI_pw x _ (srtI_pw r)
theorem srtI_eq {a l : List Int} (p : a.Perm l) (s : a.Pairwise (· ≤ ·)) : a = srtI l := PySem.W.ksm_same (p.trans (srtI_perm l).symm) s (srtI_pw l)
/-! texts -/
abbrev SL (a b : Str) : Prop := a.cps.toList ≤ b.cps.toList
theorem SL.anti {a b : Str} (h : SL a b) (h' : SL b a) : a = b := by
  have e : a.cps.toList = b.cps.toList := List.le_antisymm h h'
  cases a; cases b
  simp only [Str.mk.injEq]
  exact Array.toList_inj.mp e
theorem insS_perm (x : Str) : ∀ l : List Str, (insS x l).Perm (x :: l)
  | [] => List.Perm.refl _
  | y :: r => by
    unfold insS
    split
    · exact ((insS_perm x r).cons y).trans (List.Perm.swap x y r)
    · exact List.Perm.refl _
theorem srtS_perm : ∀ l : List Str, (srtS l).Perm l
  | [] => List.Perm.refl _
  | x :: r => (insS_perm x _).trans ((srtS_perm r).cons x)
theorem insS_pw (x : Str) : ∀ l : List Str, l.Pairwise SL → (insS x l).Pairwise SL
  | [], _ => by simp [insS]
  | y :: r, h => by
    unfold insS
    have h1 := List.pairwise_cons.mp h
    split
    · rename_i c
      refine List.pairwise_cons.mpr ⟨fun z hz => ?_, insS_pw x r h1.2⟩
      rcases List.mem_cons.mp ((insS_perm x r).mem_iff.mp hz) with e | e
      · subst e; exact List.le_of_lt c
      · exact h1.1 z e
    · rename_i c
      have c' : SL x y := List.not_lt.mp c
      refine List.pairwise_cons.mpr ⟨fun z hz => ?_, h⟩
      rcases List.mem_cons.mp hz with e | e
      · subst e; exact c'
      · exact List.le_trans c' (h1.1 z e)
theorem srtS_pw : ∀ l : List Str, (srtS l).Pairwise SL
  | [] => List.Pairwise.nil
  | x :: r => insS_pw x _ (srtS_pw r)
theorem rising_pw : ∀ (l : List Str) (p : Str), risingS p l = true → (p :: l).Pairwise SL
  | [], p, _ => by simp
  | x :: r, p, h => by
    have h' : (!ltCps x.cps.toList p.cps.toList && risingS x r) = true := h
    rw [Bool.and_eq_true, Bool.not_eq_true'] at h'
    have ih := rising_pw r x h'.2
    have c : SL p x := List.not_lt.mp (by
      have z := h'.1
      rw [ltCps_eq] at z
      simpa using z)
    refine List.pairwise_cons.mpr ⟨fun z hz => ?_, ih⟩
    rcases List.mem_cons.mp hz with e | e
    · subst e; exact c
    · exact List.le_trans c ((List.pairwise_cons.mp ih).1 z e)
theorem sortedS_pw : ∀ l : List Str, sortedS l = true → l.Pairwise SL
  | [], _ => List.Pairwise.nil
  | x :: r, h => rising_pw r x h
theorem srtS_eq {a l : List Str} (p : a.Perm l) (s : sortedS a = true) : a = srtS l :=
  List.Perm.eq_of_pairwise (le := SL) (fun x y _ _ h1 h2 => SL.anti h1 h2) (sortedS_pw a s) (srtS_pw l) (p.trans (srtS_perm l).symm)
/-! what lists hold -/
theorem intsU_ok : ∀ {xs : List Uv} {l : List Int} {ys : List V}, intsU xs = some l → VRs g m H xs ys → ys = l.map V.int
  | [], _, _, e, r => by cases e; rw [show _ = [] from r] <;> rfl
  | x :: xs, l, _, e, r => by
    obtain ⟨y, t, rfl, a, b⟩ := r
    cases x with
    | int i =>
      simp only [intsU] at e
      cases e1 : intsU xs with
      | none => rw [e1] at e; cases e
      | some l' =>
        rw [e1] at e
        cases e
        cases a
        rw [intsU_ok e1 b] <;> rfl
    | _ => cases e
theorem strsU_ok : ∀ {xs : List Uv} {l : List Str} {ys : List V}, strsU xs = some l → VRs g m H xs ys → ys = l.map V.str
  | [], _, _, e, r => by cases e; rw [show _ = [] from r] <;> rfl
  | x :: xs, l, _, e, r => by
    obtain ⟨y, t, rfl, a, b⟩ := r
    cases x with
    | str i =>
      simp only [strsU] at e
      cases e1 : strsU xs with
      | none => rw [e1] at e; cases e
      | some l' =>
        rw [e1] at e
        cases e
        cases a
        rw [strsU_ok e1 b] <;> rfl
    | _ => cases e
theorem blsU_ok : ∀ {xs : List Uv} {l : List Bool} {ys : List V}, blsU xs = some l → VRs g m H xs ys → ys = l.map V.bl
  | [], _, _, e, r => by cases e; rw [show _ = [] from r] <;> rfl
  | x :: xs, l, _, e, r => by
    obtain ⟨y, t, rfl, a, b⟩ := r
    cases x with
    | bl i =>
      simp only [blsU] at e
      cases e1 : blsU xs with
      | none => rw [e1] at e; cases e
      | some l' =>
        rw [e1] at e
        cases e
        cases a
        rw [blsU_ok e1 b] <;> rfl
    | _ => cases e
theorem VRs.ofI : ∀ l : List Int, VRs g m H (l.map .int) (l.map V.int)
  | [] => .nil
  | i :: l => .cons rfl (VRs.ofI l)
theorem VRs.ofS : ∀ l : List Str, VRs g m H (l.map .str) (l.map V.str)
  | [] => .nil
  | i :: l => .cons rfl (VRs.ofS l)
end
end Rf
set_option maxHeartbeats 4000000
namespace RfS
open PySem PySem.Spec PyProof.Rows L2 Rf
section
variable {prog : Program} {w : World} {A : Around} {E : Value → Shared → Prop} {s : Shared}
theorem setL {l : Addr} {items : Array Value} {xs : List Key} {Q : Value → Shared → Prop}
    (hh : A.handled = none) (hl : s.heap.IsList l items) (hi : KeysAre items.toList xs)(hn1 : xs.length + 1 < scanBound)
    (h : ∀ (h' : Heap) (tk : Nat), h'.SetOf (mixKind prog w) s.heap.objs.size (hasK (ddK xs)) (ddK xs).length →
      (∀ b o, b < s.heap.objs.size → s.heap.get? b = some o → h'.get? b = some o) → Q (.ref s.heap.objs.size) { s with heap := h', toks := tk }) :
    wpAny (model prog w) A (call (.type "set") [.ref l]) Q E s := by
  obtain ⟨c, tl, hmro⟩ := PySem.F.called_set.mro
  have hmade := PySem.F.called_set.made
  have hsub := PySem.F.called_set.sub
  refine wpAny_call (codeAny_of_tree ?_)
  show wpAny _ _ (callAny (.type "set") _) _ _ _
  refine wpAny_pure ⟨Code.quiet_builtin _ (by decide +kernel), codeAny_builtin PySem.F.entry_type_call ?_⟩
  rw [Around.under_plain (weight_type_call_type "set" [.ref l] []) rfl]
  have h1 := PySem.F.called_set.notType
  have h2 := PySem.F.called_set.canCreate
  have hct := PySem.F.typeCall_set_1 (.ref l)
  repeat (any_goals (first | assumption | wp_step))

  refine codeAny_mono (code_set_new_1 (.ref l) (E := E) (Q₁ := fun obj s₁ => ∃ led : Bool, obj = .ref s.heap.objs.size ∧ s₁ = { s with heap := s.heap.push { cls := .type "set", dict := none, data := .set #[] 0 (.fresh 0 0 led) } }) fun led => ⟨led, rfl, rfl⟩) fun r s₁ hr => ?_
  cases r with
  | error e => exact hr
  | ok fl =>
    cases fl with
    | ret obj =>
      obtain ⟨led, rfl, rfl⟩ := hr
      have hS : (s.heap.push { cls := .type "set", dict := none, data := .set #[] 0 (.fresh 0 0 led) }).get? s.heap.objs.size = some { cls := .type "set", dict := none, data := .set #[] 0 (.fresh 0 0 led) } := Heap.get?_push_size _ rfl
      have hT : Shared.TypeIs { s with heap := s.heap.push { cls := .type "set", dict := none, data := .set #[] 0 (.fresh 0 0 led) } } (.ref s.heap.objs.size) "set" := ⟨_, hS, rfl⟩
      have hli := PySem.F.called_set.init.lookup
      have hbi := PySem.F.called_set.init.bind (.ref s.heap.objs.size)
      repeat (any_goals (first | assumption | wp_step))

      refine codeAny_mono (codeAny_call_builtin (R := wants (fun r s₂ => r = .none ∧ ∃ h' tk, s₂ = { s with heap := h', toks := tk } ∧
          h'.SetOf (mixKind prog w) s.heap.objs.size (hasK (ddK xs)) (ddK xs).length ∧
          (∀ b o, b < s.heap.objs.size → s.heap.get? b = some o → h'.get? b = some o)) E) PySem.F.called_set.init.plain PySem.F.entry_set_init (check_set_init_1 hT ?_)) fun r₂ s₂ hr₂ => ?_
      · obtain ⟨ol, hol, hcl, nl, hdl⟩ := hl
        obtain ⟨ocls, odict, odata, oslots⟩ := ol
        simp only at hcl hdl
        subst hcl; subst hdl
        have hol' : (s.heap.push { cls := .type "set", dict := none, data := .set #[] 0 (.fresh 0 0 led) }).get? l = some { cls := .type "list", dict := odict, data := .seq items nl, slots := oslots } := Heap.get?_push_of_some _ hol
        have hsls := PySem.F.sub_list_set
        have hslf := PySem.F.sub_list_frozenset
        have hne : (Value.type "list" == Value.type "dict") = false := by decide
        have hl1 : (s.heap.push { cls := .type "set", dict := none, data := .set #[] 0 (.fresh 0 0 led) }).IsList l items := ⟨_, hol', rfl, nl, rfl⟩
        unfold Builtin.«set.__init__» noKeywords Builtin.Frozenset.updateFrom
        generalize hPI : pyIter = PI
        wp_walk
        subst hPI

        refine wpAny_pyIter_list hl1 ?_
        refine wpAny_bind (wpAny_runValue ?_)
        have hlS : l < s.heap.objs.size := Heap.lt_size hol
        have hh3 : A.in1.in1.in1.handled = none := by simp [hh]
        have hneI : l ≠ (s.heap.push { cls := .type "set", dict := none, data := .set #[] 0 (.fresh 0 0 led) }).objs.size := by
          rw [Heap.size_push]; exact Nat.ne_of_lt (Nat.lt_succ_of_lt hlS)
        have hSf : s.heap.objs.size ∉ [(s.heap.push { cls := .type "set", dict := none, data := .set #[] 0 (.fresh 0 0 led) }).objs.size, l] := by
          rw [Heap.size_push]; simp only [List.mem_cons, List.mem_singleton, List.not_mem_nil, or_false, not_or]
          exact ⟨Nat.ne_of_lt (Nat.lt_succ_self _), Nat.ne_of_gt hlS⟩
        have hsz : xs.length = items.size := by rw [hi.1, Array.length_toList]
        have hval : ∀ (i : Nat) (v : Value), items[i]? = some v → ∃ k, xs[i]? = some k ∧ keyIs k v = true := fun i v hv => hi.2 i v (by rw [Array.getElem?_toList]; exact hv)
        refine loopK ((Walks.list hh3 _ l hneI items).toS) s.heap.objs.size
          hSf xs hsz (by rw [← hsz]; exact hn1) hval (items.size - 0) 0 _ (by omega) (Nat.zero_le _)
          ⟨⟨_, Heap.get?_push_size _ rfl, rfl, rfl⟩, (hl1.push _)⟩ ?hS0 ?hR
        case hS0 =>
          have hget : ((s.heap.push { cls := .type "set", dict := none, data := .set #[] 0 (.fresh 0 0 led) }).push { cls := .type "list_iterator", data := .fields #[.ref l, .int 0 0] }).get? s.heap.objs.size
              = some { cls := .type "set", dict := none, data := .set #[] 0 (.fresh 0 0 led) } := Heap.get?_push_of_some _ hS
          exact setOf_cg (fresh_set hget) (fun _ => rfl) rfl
        case hR =>
          intro s' hm hS'
          obtain ⟨h', g', d', tk', os'⟩ := s'
          have eg : g' = s.gens := hm.gens
          have ed : d' = s.drawn := hm.drawn
          have eo : os' = s.os := hm.os
          subst eg; subst ed; subst eo
          show wpAny _ _ _ _ _ _
          refine wpAny_pure ?_
          show wpAny _ _ (ret Value.none) _ _ _
          refine wpAny_pure ⟨rfl, h', tk', rfl, hS', fun b o hb e => ?_⟩
          have hb1 : b ≠ s.heap.objs.size := Nat.ne_of_lt hb
          have hb2 : b ≠ (s.heap.push { cls := .type "set", dict := none, data := .set #[] 0 (.fresh 0 0 led) }).objs.size := by
            rw [Heap.size_push]; exact Nat.ne_of_lt (Nat.lt_succ_of_lt hb)
          exact hm.heap b o (by simp only [List.mem_cons, List.mem_singleton, List.not_mem_nil, or_false, not_or]; exact ⟨hb1, hb2⟩) (Heap.get?_push_of_some _ (Heap.get?_push_of_some _ e))

      · cases r₂ with
        | error e => exact hr₂
        | ok fl₂ =>
          cases fl₂ with
          | ret r =>
            obtain ⟨rfl, h', tk, rfl, hS', hk'⟩ := hr₂
            repeat (any_goals (first | assumption | wp_step))
            exact h _ _ hS' hk'
          | _ => exact hr₂.elim
    | _ => exact hr.elim

theorem setT {l : Addr} {items : Array Value} {xs : List Key} {Q : Value → Shared → Prop}
    (hh : A.handled = none) (hl : s.heap.IsTuple l items) (hi : KeysAre items.toList xs)(hn1 : xs.length + 1 < scanBound)
    (h : ∀ (h' : Heap) (tk : Nat), h'.SetOf (mixKind prog w) s.heap.objs.size (hasK (ddK xs)) (ddK xs).length →
      (∀ b o, b < s.heap.objs.size → s.heap.get? b = some o → h'.get? b = some o) → Q (.ref s.heap.objs.size) { s with heap := h', toks := tk }) :
    wpAny (model prog w) A (call (.type "set") [.ref l]) Q E s := by
  obtain ⟨c, tl, hmro⟩ := PySem.F.called_set.mro
  have hmade := PySem.F.called_set.made
  have hsub := PySem.F.called_set.sub
  refine wpAny_call (codeAny_of_tree ?_)
  show wpAny _ _ (callAny (.type "set") _) _ _ _
  refine wpAny_pure ⟨Code.quiet_builtin _ (by decide +kernel), codeAny_builtin PySem.F.entry_type_call ?_⟩
  rw [Around.under_plain (weight_type_call_type "set" [.ref l] []) rfl]
  have h1 := PySem.F.called_set.notType
  have h2 := PySem.F.called_set.canCreate
  have hct := PySem.F.typeCall_set_1 (.ref l)
  repeat (any_goals (first | assumption | wp_step))

  refine codeAny_mono (code_set_new_1 (.ref l) (E := E) (Q₁ := fun obj s₁ => ∃ led : Bool, obj = .ref s.heap.objs.size ∧ s₁ = { s with heap := s.heap.push { cls := .type "set", dict := none, data := .set #[] 0 (.fresh 0 0 led) } }) fun led => ⟨led, rfl, rfl⟩) fun r s₁ hr => ?_
  cases r with
  | error e => exact hr
  | ok fl =>
    cases fl with
    | ret obj =>
      obtain ⟨led, rfl, rfl⟩ := hr
      have hS : (s.heap.push { cls := .type "set", dict := none, data := .set #[] 0 (.fresh 0 0 led) }).get? s.heap.objs.size = some { cls := .type "set", dict := none, data := .set #[] 0 (.fresh 0 0 led) } := Heap.get?_push_size _ rfl
      have hT : Shared.TypeIs { s with heap := s.heap.push { cls := .type "set", dict := none, data := .set #[] 0 (.fresh 0 0 led) } } (.ref s.heap.objs.size) "set" := ⟨_, hS, rfl⟩
      have hli := PySem.F.called_set.init.lookup
      have hbi := PySem.F.called_set.init.bind (.ref s.heap.objs.size)
      repeat (any_goals (first | assumption | wp_step))

      refine codeAny_mono (codeAny_call_builtin (R := wants (fun r s₂ => r = .none ∧ ∃ h' tk, s₂ = { s with heap := h', toks := tk } ∧
          h'.SetOf (mixKind prog w) s.heap.objs.size (hasK (ddK xs)) (ddK xs).length ∧
          (∀ b o, b < s.heap.objs.size → s.heap.get? b = some o → h'.get? b = some o)) E) PySem.F.called_set.init.plain PySem.F.entry_set_init (check_set_init_1 hT ?_)) fun r₂ s₂ hr₂ => ?_
      · obtain ⟨ol, hol, hcl, nl, hdl⟩ := hl
        obtain ⟨ocls, odict, odata, oslots⟩ := ol
        simp only at hcl hdl
        subst hcl; subst hdl
        have hol' : (s.heap.push { cls := .type "set", dict := none, data := .set #[] 0 (.fresh 0 0 led) }).get? l = some { cls := .type "tuple", dict := odict, data := .seq items nl, slots := oslots } := Heap.get?_push_of_some _ hol
        have hsls := PySem.F.sub_tuple_set
        have hslf := PySem.F.sub_tuple_frozenset
        have hne : (Value.type "tuple" == Value.type "dict") = false := by decide
        have hl1 : (s.heap.push { cls := .type "set", dict := none, data := .set #[] 0 (.fresh 0 0 led) }).IsTuple l items := ⟨_, hol', rfl, nl, rfl⟩
        unfold Builtin.«set.__init__» noKeywords Builtin.Frozenset.updateFrom
        generalize hPI : pyIter = PI
        wp_walk
        subst hPI

        refine wpAny_pyIter_tuple hl1 ?_
        refine wpAny_bind (wpAny_runValue ?_)
        have hlS : l < s.heap.objs.size := Heap.lt_size hol
        have hh3 : A.in1.in1.in1.handled = none := by simp [hh]
        have hneI : l ≠ (s.heap.push { cls := .type "set", dict := none, data := .set #[] 0 (.fresh 0 0 led) }).objs.size := by
          rw [Heap.size_push]; exact Nat.ne_of_lt (Nat.lt_succ_of_lt hlS)
        have hSf : s.heap.objs.size ∉ [(s.heap.push { cls := .type "set", dict := none, data := .set #[] 0 (.fresh 0 0 led) }).objs.size, l] := by
          rw [Heap.size_push]; simp only [List.mem_cons, List.mem_singleton, List.not_mem_nil, or_false, not_or]
          exact ⟨Nat.ne_of_lt (Nat.lt_succ_self _), Nat.ne_of_gt hlS⟩
        have hsz : xs.length = items.size := by rw [hi.1, Array.length_toList]
        have hval : ∀ (i : Nat) (v : Value), items[i]? = some v → ∃ k, xs[i]? = some k ∧ keyIs k v = true := fun i v hv => hi.2 i v (by rw [Array.getElem?_toList]; exact hv)
        refine loopK ((Walks.tuple hh3 _ l hneI items).toS) s.heap.objs.size
          hSf xs hsz (by rw [← hsz]; exact hn1) hval (items.size - 0) 0 _ (by omega) (Nat.zero_le _)
          ⟨⟨_, Heap.get?_push_size _ rfl, rfl, rfl⟩, (hl1.push _)⟩ ?hS0 ?hR
        case hS0 =>
          have hget : ((s.heap.push { cls := .type "set", dict := none, data := .set #[] 0 (.fresh 0 0 led) }).push { cls := .type "tuple_iterator", data := .fields #[.ref l, .int 0 0] }).get? s.heap.objs.size
              = some { cls := .type "set", dict := none, data := .set #[] 0 (.fresh 0 0 led) } := Heap.get?_push_of_some _ hS
          exact setOf_cg (fresh_set hget) (fun _ => rfl) rfl
        case hR =>
          intro s' hm hS'
          obtain ⟨h', g', d', tk', os'⟩ := s'
          have eg : g' = s.gens := hm.gens
          have ed : d' = s.drawn := hm.drawn
          have eo : os' = s.os := hm.os
          subst eg; subst ed; subst eo
          show wpAny _ _ _ _ _ _
          refine wpAny_pure ?_
          show wpAny _ _ (ret Value.none) _ _ _
          refine wpAny_pure ⟨rfl, h', tk', rfl, hS', fun b o hb e => ?_⟩
          have hb1 : b ≠ s.heap.objs.size := Nat.ne_of_lt hb
          have hb2 : b ≠ (s.heap.push { cls := .type "set", dict := none, data := .set #[] 0 (.fresh 0 0 led) }).objs.size := by
            rw [Heap.size_push]; exact Nat.ne_of_lt (Nat.lt_succ_of_lt hb)
          exact hm.heap b o (by simp only [List.mem_cons, List.mem_singleton, List.not_mem_nil, or_false, not_or]; exact ⟨hb1, hb2⟩) (Heap.get?_push_of_some _ (Heap.get?_push_of_some _ e))

      · cases r₂ with
        | error e => exact hr₂
        | ok fl₂ =>
          cases fl₂ with
          | ret r =>
            obtain ⟨rfl, h', tk, rfl, hS', hk'⟩ := hr₂
            repeat (any_goals (first | assumption | wp_step))
            exact h _ _ hS' hk'
          | _ => exact hr₂.elim
    | _ => exact hr.elim

end
end RfS
set_option maxHeartbeats 4000000
namespace Rf
open PySem PySem.Spec PyProof.Rows L2 RfS
open PySem.AutoSeq1 (wpAny_loadPart')
/-! ### what a dict gives to tuple(), list(), a star, sorted() -/
section
variable {prog : Program} {w : World} {A : Around} {E : Value → Shared → Prop} {s : Shared} {T : String} {r d : Addr} {n : Nat} {P : Nat → Value → Prop} {OK : Heap → Prop}
theorem meets_tuple_src (K : PySem.W.KdlSrc prog w T r d n P OK) (hn : n ≤ sizeLine) :
    MeetsIn prog w (Builtin.«tuple.__new__» ⟨[.type "tuple", .ref r], []⟩)
      (fun A R s => A.handled = none ∧ OK s.heap ∧ ∀ (h' : Heap) (tk : Nat) (acc : Array Value), (∀ b o, s.heap.get? b = some o → h'.get? b = some o) → PySem.ItemsOf P acc n → R (.ok (.ret (.ref h'.objs.size))) { s with heap := h'.push { cls := .type "tuple", data := .seq acc }, toks := tk }) :=
  .of_wp fun A R s h => by
    obtain ⟨hp, g, d', tk, os⟩ := s; obtain ⟨hh, ok, h⟩ := h
    have hsub := sub_tuple_self
    have hinit := init_tuple_lookup
    have hmh := madeHere_tuple
    have hT : Shared.TypeIs ⟨hp, g, d', tk, os⟩ (.ref r) T := K.type _ ok
    have hnt := K.notTuple
    wp_walk using wpAny_typeOf hT, PySem.W.kdu_collect (A := A.in1) (s := ⟨hp, g, d', tk, os⟩) K hh ok hn
    intro h' tk' acc hk hacc
    show wpAny _ _ (Builtin.Tuple.tupleExact acc.toList.toArray >>= fun v => ret v) _ _ _
    unfold Builtin.Tuple.tupleExact
    have e : acc.toList.toArray = acc := by simp
    rw [e]
    refine wpAny_bind (wpAny_newObj_type ?_ (by show acc.size ≤ sizeLine; rw [hacc.1]; exact hn))
    exact wpAny_pure ⟨_, rfl, h h' tk' acc hk hacc⟩
theorem call_tuple_src {Q : Value → Shared → Prop} (K : PySem.W.KdlSrc prog w T r d n P OK) (hn : n ≤ sizeLine) (hh : A.handled = none) (ok : OK s.heap)
    (h : ∀ (h' : Heap) (tk : Nat) (acc : Array Value), (∀ b o, s.heap.get? b = some o → h'.get? b = some o) → PySem.ItemsOf P acc n → Q (.ref h'.objs.size) { s with heap := h'.push { cls := .type "tuple", data := .seq acc }, toks := tk }) :
    wpAny (model prog w) A (call (.type "tuple") [.ref r]) Q E s :=
  callType_newIn F.called_tuple (by decide) (F.typeCall_tuple_1 _) (F.newCall_tuple_1 _) (fun obj => F.args_object_init_2 obj _) F.entry_tuple_new
    (meets_tuple_src K hn) ⟨hh, ok, fun h' tk acc hk hacc => ⟨⟨_, Heap.get?_push_size _ rfl, rfl⟩, h h' tk acc hk hacc⟩⟩
end
section
variable {X : Cx} {pins : List (Addr × Obj)} {σ : L2.St} {H : Hp} {s : Shared} {a : Addr}
/-- the keys of a dict with keys carried by value, collected -/
theorem col_dict {kvs : List (Key × V)} {A : Around} {E : Value → Shared → Prop} {Q : List Value → Shared → Prop} (I : Inv X pins σ H s) (hh : A.handled = none) (hd : Rd H a (.dK kvs)) (q : ∀ us s', Inv X pins σ H s' → Vals (kvs.map fun p => kV p.1) us → Q us s') :
    wpAny (model X.prog X.w) A (collect (.ref a)) Q E s := by
  obtain ⟨z, lo, vs, rel, dd⟩ := dk_rd I.hok hd
  obtain ⟨ep, hat⟩ := dd.dictAt
  have ek : (kvs.map fun kv => kV kv.1) = vs.map fun p => kV p.1 := by
    have e := congrArg (List.map kV) rel.keys
    rw [List.map_map, List.map_map] at e
    exact e
  refine PySem.W.kdu_collect (PySem.W.kdl_dict (knd := mixKind X.prog X.w) (kvs := vs) (ep := ep) lo) hh hat (by rw [← rel.length]; exact z) fun h' tk acc hk hacc => ?_
  have hv : Vals (vs.map fun p => kV p.1) acc.toList := keys_at (by rw [Array.length_toList]; exact hacc.1) fun j v e => hacc.2 j v (by rw [← Array.getElem?_toList]; exact e)
  exact q _ _ (I.kept (t' := tk) hk) (by rw [ek]; exact hv)
theorem star_dict {kvs : List (Key × V)} {E : Value → Shared → Prop} {Q : List Value → Shared → Prop} (hc : X.calm = true) (I : Inv X pins σ H s) (hd : Rd H a (.dK kvs)) (q : ∀ us s', Inv X pins σ H s' → Vals (kvs.map fun p => kV p.1) us → Q us s') :
    PySem.W.StarOf (model X.prog X.w) X.A E (.ref a) Q s := by
  obtain ⟨z, lo, vs, rel, dd⟩ := dk_rd I.hok hd
  have w := col_dict (A := X.A) (E := E) I (I.ok.hd hc) hd q
  unfold PySem.W.StarOf notIterableAtAll
  exact wpAny_bind (wpAny_specialOf dd.typeIs PySem.F.slot_dict_iter.lookup (wpAny_pure ⟨rfl, w⟩))
/-- *e: a tuple, a list, a dict's keys -/
def tStarD (K : PySem.W.Frag) (te : TE) (t : TA) : TA := fun σ H Q => te σ H fun x H1 => ∃ p xs, x = V.ref p ∧ ((SqT K H1 p xs ∨ SqL K H1 p xs) ∨ ∃ kvs : List (Key × V), Rd H1 p (.dK kvs) ∧ xs = kvs.map fun e => kV e.1) ∧ t σ H1 fun ys H2 => Q (xs ++ ys) H2
theorem pa_starD {e : Expr} {es : List Expr} {te : TE} {t : TA} {p : Pos} (hc : X.calm = true) (he : PE X e te) (hr : PA X es t) (hs : starEach (.Starred e p :: es) X.env = (true, eval e X.env) :: starEach es X.env := by rfl) : PA X (.Starred e p :: es) (tStarD X.K te t) := by
  refine ⟨fun pos pins s σ H Q I h => ?_⟩
  refine PySem.W.items_star (thn (he.run pins s σ H _ I h) fun v s1 ⟨y, H1, I1, ry, a, xs, ey, hx, q⟩ => ?_) hs
  subst ey
  obtain rfl : v = Value.ref a := ry
  rcases hx with hx | ⟨kvs, hd, rfl⟩
  · refine StX.star_any I1 hx fun us s2 I2 rv => ?_
    exact thn (hr.run pos pins s2 σ H1 _ I2 q) fun ws s3 ⟨vs, H3, I3, r3, q3⟩ => ⟨xs ++ vs, H3, I3, rv.append r3, q3⟩
  · refine star_dict hc I1 hd fun us s2 I2 rv => ?_
    exact thn (hr.run pos pins s2 σ H1 _ I2 q) fun ws s3 ⟨vs, H3, I3, r3, q3⟩ => ⟨_ ++ vs, H3, I3, rv.append r3, q3⟩
/-- tuple(d) -/
def rTupD : List V → Hp → VK → Prop := fun xs H Q => ∃ (a : Addr) (kvs : List (Key × V)), xs = [.ref a] ∧ Rd H a (.dK kvs) ∧ ∀ p, H p = none → Q (.ref p) (upd H p (.tup (kvs.map fun e => kV e.1)))
theorem call_tupleD (hc : X.calm = true) : CallR X (.type "tuple") rTupD := by
  intro pins s σ H xs us Q I r q
  obtain ⟨a, kvs, rfl, hd, q⟩ := q
  obtain ⟨u, rfl, rx⟩ := vals1 r
  cases rx
  obtain ⟨z, lo, vs, rel, dd⟩ := dk_rd I.hok hd
  obtain ⟨ep, hat⟩ := dd.dictAt
  have ek : (kvs.map fun kv => kV kv.1) = vs.map fun p => kV p.1 := by
    have e := congrArg (List.map kV) rel.keys
    rw [List.map_map, List.map_map] at e
    exact e
  refine call_tuple_src (PySem.W.kdl_dict (knd := mixKind X.prog X.w) (kvs := vs) (ep := ep) lo) (by rw [← rel.length]; exact z) (I.ok.hd hc) hat fun h' tk acc hk hacc => ?_
  have hv : Vals (vs.map fun p => kV p.1) acc.toList := keys_at (by rw [Array.length_toList]; exact hacc.1) fun j v e => hacc.2 j v (by rw [← Array.getElem?_toList]; exact e)
  have I1 : Inv X pins σ H { s with heap := h', toks := tk } := I.kept (t' := tk) hk
  have I2 : Inv X pins σ (upd H h'.objs.size (.tup (kvs.map fun e => kV e.1))) { s with heap := h'.push { cls := .type "tuple", data := .seq acc }, toks := tk } :=
    I1.laid (t' := tk) (fun b o e => Heap.get?_push_of_some _ e) (Nat.le_refl _) (show ObjOk X.prog X.w _ _ _ (.tup _) from ⟨by rw [List.length_map]; exact z, acc.toList, by rw [ek]; exact hv, by rw [Array.toArray_toList]; exact IsTup.new _ _⟩)
  exact ⟨.ref h'.objs.size, _, I2, rfl, q _ (I1.hok.fresh (Nat.le_refl _))⟩
/-- the view d.values() at p -/
def valsO (p d : Addr) : HO := .ext fun h => h.IsValuesView p d
theorem valsO_ok {P : Program} {w : World} {H : Hp} {h : Heap} {p d : Addr} (e : h.get? p = some { cls := .type "dict_values", data := .fields #[.ref d] }) : ObjOk P w H h p (valsO p d) :=
  ⟨⟨_, e, rfl, rfl⟩, ⟨_, e⟩, fun h1 h2 x k => let ⟨o, ho, r⟩ := x; ⟨o, k o ho, r⟩⟩
def rVals : V → List V → Hp → VK → Prop := fun x xs H Q => ∃ (a : Addr) (kvs : List (Key × V)), x = .ref a ∧ xs = [] ∧ H a = some (.dK kvs) ∧ ∀ p, H p = none → Q (.ref p) (upd H p (valsO p a))
theorem mt_vals : MtR X "dict.values" rVals := by
  intro pins s σ H x xs v us Q I rx rxs h
  obtain ⟨a, kvs, rfl, rfl, ha, q⟩ := h
  cases rx
  cases rxs
  obtain ⟨z, hd, vs, rel, dd⟩ := dk_of I.hok ha
  refine call_meetsIn PySem.F.slot_dict_values dd.typeIs PySem.F.entry_dict_values (PySem.F.args_dict_values_1 _) (meets_dict_values (mixKind X.prog X.w) a hd) ⟨⟨vs, dd⟩, ?_⟩
  have hf : H s.heap.objs.size = none := I.hok.fresh (Nat.le_refl _)
  exact ⟨.ref s.heap.objs.size, upd H s.heap.objs.size (valsO s.heap.objs.size a), I.laid (t' := s.toks) (fun b u e => Heap.get?_push_of_some _ e) (Nat.le_refl _) (valsO_ok (Heap.get?_push_size _ rfl)), rfl, q _ hf⟩
theorem vals_at : ∀ {kvs : List (Key × V)} {vs : List (Key × Value)} {us : List Value}, KV kvs vs → us.length = vs.length → (∀ (j : Nat) (v : Value), us[j]? = some v → ∃ k, vs[j]? = some (k, v)) → Vals (kvs.map (·.2)) us
  | _, _, [], .nil, _, _ => .nil
  | _, _, u :: us, .nil, h, _ => by simp at h
  | p :: ps, q :: qs, us, .cons r t, hl, h => by
    cases us with
    | nil => simp at hl
    | cons u us =>
      obtain ⟨k, e⟩ := h 0 u rfl
      have e : q = (k, u) := by simpa using e
      subst e
      exact .cons r.2 (vals_at t (by simpa using hl) fun j v e => by
        obtain ⟨k', e'⟩ := h (j + 1) v (by simpa using e)
        exact ⟨k', by simpa using e'⟩)
/-- tuple(d.values()) -/
def rTupV : List V → Hp → VK → Prop := fun xs H Q => ∃ (p a : Addr) (kvs : List (Key × V)), xs = [.ref p] ∧ H p = some (valsO p a) ∧ H a = some (.dK kvs) ∧ ∀ q, H q = none → Q (.ref q) (upd H q (.tup (kvs.map (·.2))))
theorem call_tupleV (hc : X.calm = true) : CallR X (.type "tuple") rTupV := by
  intro pins s σ H xs us Q I r q
  obtain ⟨p, a, kvs, rfl, hp, ha, q⟩ := q
  obtain ⟨u, rfl, rx⟩ := vals1 r
  cases rx
  obtain ⟨z, lo, vs, rel, dd⟩ := dk_of I.hok ha
  obtain ⟨ep, hat⟩ := dd.dictAt
  have hv : s.heap.IsValuesView p a := (I.hok p _ hp).1
  refine call_tuple_src (PySem.W.kdl_values (knd := mixKind X.prog X.w) (kvs := vs) (ep := ep) (r := p) (d := a)) (by rw [← rel.length]; exact z) (I.ok.hd hc) ⟨hv, hat⟩ fun h' tk acc hk hacc => ?_
  have hv : Vals (kvs.map (·.2)) acc.toList := vals_at rel (by rw [Array.length_toList]; exact hacc.1) fun j v e => hacc.2 j v (by rw [← Array.getElem?_toList]; exact e)
  have I1 : Inv X pins σ H { s with heap := h', toks := tk } := I.kept (t' := tk) hk
  have I2 : Inv X pins σ (upd H h'.objs.size (.tup (kvs.map (·.2)))) { s with heap := h'.push { cls := .type "tuple", data := .seq acc }, toks := tk } :=
    I1.laid (t' := tk) (fun b o e => Heap.get?_push_of_some _ e) (Nat.le_refl _) (show ObjOk X.prog X.w _ _ _ (.tup _) from ⟨by rw [List.length_map]; exact z, acc.toList, hv, by rw [Array.toArray_toList]; exact IsTup.new _ _⟩)
  exact ⟨.ref h'.objs.size, _, I2, rfl, q _ (I1.hok.fresh (Nat.le_refl _))⟩
/-- sorted(d), the keys tuples of d ints in [0, B) -/
def rSortN (P : Program) (w : World) (K : PySem.W.Frag) (d : Nat) (B : Int) : List V → Hp → VK → Prop := fun vs H Q => ∃ (a : Addr) (xs : List (NestedKey × Addr × V)), vs = [V.ref a] ∧ NdAt P w K H a xs ∧ xs.length < 64 ∧ (∀ x ∈ xs, ∃ ns, TupI K H (.ref x.2.1) ns ∧ ns.length = d ∧ TS.Bd B ns) ∧
  ∀ (ys : List V) (p : Addr), ys.Perm (xs.map fun x => V.ref x.2.1) → ys.Pairwise (fun x y => ∀ n m, TupI K H x n → TupI K H y m → TS.code B n ≤ TS.code B m) → H p = none → Q (.ref p) (upd H p (.lst ys))
theorem cr_sortN {d : Nat} {B : Int} (hc : X.calm = true) (hd : 1 ≤ d) : CallR X (.builtin "sorted") (rSortN X.prog X.w X.K d B) := by
  intro pins s σ H vs us Q I r h
  obtain ⟨a, xs, rfl, hn, h64, hx, q⟩ := h
  rw [Vals.ref1 r]
  obtain ⟨hs, hz, ys, pr, o, es, ep, ho, hex, hdt, he, his, hnd⟩ := nd_rd I hn
  have l1 : es.size = ys.length := size_of_entries he
  have l2 : xs.length = ys.length := Paired.length pr
  refine Calls.call_function_entry PyProof.Rows.kind_sorted PyProof.Rows.plain_sorted PyProof.Rows.entry_sorted (PyProof.Rows.args_sorted1 _) ?_
  unfold Builtin.«sorted»
  refine wpAny_bind (m := checkCount "sorted" 1 1 _) (wpAny_pure ?_)
  refine wpAny_bind (PySem.W.kdu_collect (A := X.A.in1) (kdl_raw hs hex hdt) (I.ok.hd hc) ho (by omega) fun h' tk acc hk hacc => ?_)
  have ea : acc.toList = xs.map fun x => Value.ref x.2.1 := by
    have hl : acc.toList.length = ys.length := by rw [Array.length_toList, hacc.1]; exact l1
    have ey : ys.map (fun x => Value.ref x.2.1) = xs.map fun x => Value.ref x.2.1 := by
      clear hn hx q h64 hz hl he l1 l2 hnd his
      induction pr with
      | nil => rfl
      | cons hq t ih => rw [List.map_cons, List.map_cons, ih, hq.2.1]
    rw [← ey]
    apply List.ext_getElem?
    intro j
    rw [List.getElem?_map]
    cases hj : acc.toList[j]? with
    | none =>
      have h1 := List.getElem?_eq_none_iff.mp hj
      rw [List.getElem?_eq_none (by omega)]
      all_goals rfl
    | some v =>
      obtain ⟨en, hen, hv⟩ := hacc.2 j v (by rw [← Array.getElem?_toList]; exact hj)
      have qe := entry_at he j
      rw [hen] at qe
      cases hb : ys[j]? with
      | none =>
        rw [hb] at qe
        exact nomatch (show some en = none from qe)
      | some b =>
        rw [hb] at qe
        have e2 : en = entryOfKey (nestedKind X.prog X.w) b := Option.some.inj qe
        rw [hv, e2]
        rfl
  have I1 : Inv X pins σ H { s with heap := h', toks := tk } := I.kept (t' := tk) hk
  have hal : acc.toList.length < 64 := by rw [ea, List.length_map]; exact h64
  refine wpAny_bind (wpAny_newList ?_ (by rw [sizeLine_eq]; omega))
  have hoL : (h'.push (seqObj "list" acc.toList.toArray 0)).get? h'.objs.size = some (seqObj "list" acc.toList.toArray 0) := Heap.get?_push_size _ rfl
  have I2 : Inv X pins σ H { s with heap := h'.push (seqObj "list" acc.toList.toArray 0), toks := tk } := I1.kept (t' := tk) fun b o e => Heap.get?_push_of_some _ e
  have e2 : ∀ u ∈ acc.toList, ∃ a, u = Value.ref a := fun u hu => by
    rw [ea] at hu
    obtain ⟨x, _, rfl⟩ := List.mem_map.mp hu
    exact ⟨_, rfl⟩
  have ok : TS.TupsOk (h'.push (seqObj "list" acc.toList.toArray 0)) d B acc.toList := fun v hv => by
    rw [ea] at hv
    obtain ⟨x, hxm, rfl⟩ := List.mem_map.mp hv
    obtain ⟨ns, ⟨t', e, ht⟩, h1, h2⟩ := hx x hxm
    cases e
    exact ⟨ns, tupI_raw I2 ht, h1, h2⟩
  show wpAny _ _ _ _ _ { s with heap := h'.push (seqObj "list" acc.toList.toArray 0), toks := tk }
  refine wpAny_bind (wpAny_holding (wpAny_call_entry PyProof.Rows.slot_list_sort ⟨_, hoL, rfl⟩ PyProof.Rows.entry_list_sort
    (TS.sort_tups (s := { s with heap := h'.push (seqObj "list" acc.toList.toArray 0), toks := tk }) hoL hal hd ok (fun v => TS.code B (TS.intsOf (h'.push (seqObj "list" acc.toList.toArray 0)) v)) (fun v hv ns t => by
      show TS.code B (TS.intsOf _ v) = TS.code B ns
      rw [t.ints]) fun out h1 h2 => ⟨_, rfl, ?_⟩) (PyProof.Rows.args_list_sort _)))
  obtain ⟨e', he'⟩ := PyProof.Rows.sortedHeap_at (vs := acc.toList) (out := out) hoL
  have h3 : ∀ u ∈ out.toList, ∃ a, u = Value.ref a := fun u hu => e2 u (h1.mem_iff.mp hu)
  have hp : (out.toList.map bkV).Perm (xs.map fun x => V.ref x.2.1) := by
    have z := h1.map bkV
    rw [ea, List.map_map] at z
    exact z
  have hlen : (out.toList.map bkV).length ≤ sizeLine := by
    rw [hp.length_eq, List.length_map]
    exact Nat.le_trans (Nat.le_of_lt h64) (by decide)
  refine wpAny_pure ⟨_, rfl, .ref h'.objs.size, upd H h'.objs.size (.lst (out.toList.map bkV)), I1.laid (t' := tk) (fun b u e => ?_) (Nat.le_refl _)
    (show ObjOk X.prog X.w _ _ _ (.lst (out.toList.map bkV)) from ⟨hlen, out.toList, e', bkV_vals h3, by rw [Array.toArray_toList]; exact he'⟩), rfl, q _ _ hp ?_ (I1.hok.fresh (Nat.le_refl _))⟩
  · have hb : b < h'.objs.size := Heap.lt_size e
    rw [PyProof.Rows.sortedHeap_old (Nat.ne_of_lt hb) (by rw [size_push']; exact Nat.lt_succ_of_lt hb)]
    exact Heap.get?_push_of_some _ e
  · rw [List.pairwise_map]
    refine List.Pairwise.imp (fun {u v} huv n m hn hm => ?_) h2
    obtain ⟨t, et, ht⟩ := hn
    obtain ⟨t', et', ht'⟩ := hm
    have eu := bkV_ref et
    have ev := bkV_ref et'
    subst eu ev
    have a1 := (tupI_raw I2 ht).ints
    have a2 := (tupI_raw I2 ht').ints
    rw [a1, a2] at huv
    exact huv
end
end Rf
set_option maxHeartbeats 4000000
namespace Rf
open PySem PySem.Spec PyProof.Rows L2 RfS
/-! ### sorting tuples of whole numbers -/
section
variable {B : Int}
theorem leI_of : ∀ {a b : List Int}, a.length = b.length → TS.Bd B a → TS.Bd B b → TS.code B a ≤ TS.code B b → leI a b = true
  | [], _, _, _, _, _ => rfl
  | _ :: _, [], l, _, _, _ => by simp at l
  | x :: as, y :: bs, l, ha, hb, h => by
    unfold leI
    by_cases c : x < y
    · rw [if_pos c]
    · rw [if_neg c]
      by_cases c2 : y < x
      · have z := TS.code_lt (by simpa using l.symm) hb.tail ha.tail c2
        omega
      · rw [if_neg c2]
        have e : x = y := by omega
        subst e
        refine leI_of (by simpa using l) ha.tail hb.tail ?_
        have z := TS.code_same (B := B) (d := x) (r := bs) (q := as) (by simpa using l.symm)
        omega
theorem leI_to : ∀ {a b : List Int}, a.length = b.length → TS.Bd B a → TS.Bd B b → leI a b = true → TS.code B a ≤ TS.code B b
  | [], [], _, _, _, _ => Int.le_refl _
  | [], _ :: _, l, _, _, _ => by simp at l
  | _ :: _, [], l, _, _, _ => by simp at l
  | x :: as, y :: bs, l, ha, hb, h => by
    unfold leI at h
    by_cases c : x < y
    · have z := TS.code_lt (by simpa using l) ha.tail hb.tail c
      omega
    · rw [if_neg c] at h
      by_cases c2 : y < x
      · rw [if_pos c2] at h; cases h
      · rw [if_neg c2] at h
        have e : x = y := by omega
        subst e
        have z := leI_to (by simpa using l) ha.tail hb.tail h
        have z2 := TS.code_same (B := B) (d := x) (r := bs) (q := as) (by simpa using l.symm)
        omega
theorem code_anti : ∀ {a b : List Int}, a.length = b.length → TS.Bd B a → TS.Bd B b → TS.code B a ≤ TS.code B b → TS.code B b ≤ TS.code B a → a = b
  | [], [], _, _, _, _, _ => rfl
  | [], _ :: _, l, _, _, _, _ => by simp at l
  | _ :: _, [], l, _, _, _, _ => by simp at l
  | x :: as, y :: bs, l, ha, hb, h, h' => by
    rcases Int.lt_trichotomy x y with c | c | c
    · have z := TS.code_lt (by simpa using l) ha.tail hb.tail c
      omega
    · subst c
      have z1 := TS.code_same (B := B) (d := x) (r := bs) (q := as) (by simpa using l.symm)
      have z2 := TS.code_same (B := B) (d := x) (r := as) (q := bs) (by simpa using l)
      rw [code_anti (by simpa using l) ha.tail hb.tail (by omega) (by omega)]
    · have z := TS.code_lt (by simpa using l.symm) hb.tail ha.tail c
      omega
theorem insT_perm (x : List Int) : ∀ l : List (List Int), (insT x l).Perm (x :: l)
  | [] => List.Perm.refl _
  | y :: r => by
    unfold insT
    cases leI x y with
    | true => exact List.Perm.refl _
    | false => exact ((insT_perm x r).cons y).trans (List.Perm.swap x y r)
theorem srtT_perm : ∀ l : List (List Int), (srtT l).Perm l
  | [] => List.Perm.refl _
  | x :: r => (insT_perm x _).trans ((srtT_perm r).cons x)
def OkT (B : Int) (d : Nat) (l : List (List Int)) : Prop := ∀ x ∈ l, x.length = d ∧ TS.Bd B x
theorem insT_pw {d : Nat} (x : List Int) (hx : x.length = d ∧ TS.Bd B x) : ∀ l : List (List Int), OkT B d l → l.Pairwise (fun a b => TS.code B a ≤ TS.code B b) → (insT x l).Pairwise (fun a b => TS.code B a ≤ TS.code B b)
  | [], _, _ => by simp [insT]
  | y :: r, ok, h => by
    have h1 := List.pairwise_cons.mp h
    have hy := ok y List.mem_cons_self
    unfold insT
    cases e : leI x y with
    | true =>
      have c := leI_to (hx.1.trans hy.1.symm) hx.2 hy.2 e
      refine List.pairwise_cons.mpr ⟨fun z hz => ?_, h⟩
      rcases List.mem_cons.mp hz with e | e
      · subst e; exact c
      · exact Int.le_trans c (h1.1 z e)
    | false =>
      have c : TS.code B y ≤ TS.code B x := by
        rcases Int.le_total (TS.code B y) (TS.code B x) with c | c
        · exact c
        · rw [leI_of (hx.1.trans hy.1.symm) hx.2 hy.2 c] at e
          cases e
      refine List.pairwise_cons.mpr ⟨fun z hz => ?_, insT_pw x hx r (fun a ha => ok a (List.mem_cons_of_mem _ ha)) h1.2⟩
      rcases List.mem_cons.mp ((insT_perm x r).mem_iff.mp hz) with e | e
      · subst e; exact c
      · exact h1.1 z e
theorem srtT_pw {d : Nat} : ∀ l : List (List Int), OkT B d l → (srtT l).Pairwise (fun a b => TS.code B a ≤ TS.code B b)
  | [], _ => List.Pairwise.nil
  | x :: r, ok => insT_pw x (ok x List.mem_cons_self) _ (fun a ha => ok a (List.mem_cons_of_mem _ ((srtT_perm r).mem_iff.mp ha))) (srtT_pw r fun a ha => ok a (List.mem_cons_of_mem _ ha))
theorem srtT_eq {d : Nat} {a l : List (List Int)} (ok : OkT B d l) (p : a.Perm l) (s : a.Pairwise (fun a b => TS.code B a ≤ TS.code B b)) : a = srtT l := by
  refine List.Perm.eq_of_pairwise (le := fun a b => TS.code B a ≤ TS.code B b) (fun x y hx hy h1 h2 => ?_) s (srtT_pw l ok) (p.trans (srtT_perm l).symm)
  have ox := ok x (p.mem_iff.mp hx)
  have oy := ok y ((srtT_perm l).mem_iff.mp hy)
  exact code_anti (ox.1.trans oy.1.symm) ox.2 oy.2 h1 h2
end
theorem perm_pair {α β : Type} {R : α → β → Prop} {ys xs : List α} (p : ys.Perm xs) : ∀ {L : List β}, Paired R xs L → ∃ L', L'.Perm L ∧ Paired R ys L' := by
  induction p with
  | nil => exact fun h => ⟨_, List.Perm.refl _, h⟩
  | cons x p ih =>
    intro L h
    cases h with
    | cons r t =>
      obtain ⟨L', q, h'⟩ := ih t
      exact ⟨_, q.cons _, .cons r h'⟩
  | swap x y l =>
    intro L h
    cases h with
    | cons r t =>
      cases t with
      | cons r2 t2 => exact ⟨_, List.Perm.swap _ _ _, .cons r2 (.cons r t2)⟩
  | trans p q ih1 ih2 =>
    intro L h
    obtain ⟨L1, q1, h1⟩ := ih2 h
    obtain ⟨L2, q2, h2⟩ := ih1 h1
    exact ⟨L2, q2.trans q1, h2⟩
theorem paired_mem {α β : Type} {R : α → β → Prop} : ∀ {xs : List α} {L : List β}, Paired R xs L → ∀ x ∈ xs, ∃ l ∈ L, R x l
  | _, _, .nil, x, hx => nomatch hx
  | _, _, .cons r t, x, hx => by
    rcases List.mem_cons.mp hx with e | hx
    · subst e; exact ⟨_, List.mem_cons_self, r⟩
    · obtain ⟨l, hl, r⟩ := paired_mem t x hx
      exact ⟨l, List.mem_cons_of_mem _ hl, r⟩
theorem paired_pw {α β : Type} {R : α → β → Prop} {P : α → α → Prop} {Q : β → β → Prop} (h : ∀ a b x y, R a x → R b y → P a b → Q x y) : ∀ {xs : List α} {L : List β}, Paired R xs L → xs.Pairwise P → L.Pairwise Q
  | _, _, .nil, _ => List.Pairwise.nil
  | a :: xs, x :: L, .cons r t, hp => by
    have hp := List.pairwise_cons.mp hp
    refine List.pairwise_cons.mpr ⟨fun y hy => ?_, paired_pw h t hp.2⟩
    have key : ∀ {xs : List α} {L : List β}, Paired R xs L → ∀ y ∈ L, ∃ b ∈ xs, R b y := by
      intro xs L q
      induction q with
      | nil => exact fun y hy => nomatch hy
      | cons r t ih =>
        intro y hy
        rcases List.mem_cons.mp hy with e | hy
        · subst e; exact ⟨_, List.mem_cons_self, r⟩
        · obtain ⟨b, hb, r⟩ := ih y hy
          exact ⟨b, List.mem_cons_of_mem _ hb, r⟩
    obtain ⟨b, hb, rb⟩ := key t y hy
    exact h a b x y r rb (hp.1 b hb)
section
variable {g : Gs} {W : WX} {m : List Addr} {H : Hp} {h : List Ob} {Q : VK}
theorem tupsU_ok : ∀ {us : List Uv} {L : List (List Int)} {xs : List V}, tupsU us = some L → VRs g m H us xs → Paired (fun x l => TupI g.K H x l) xs L
  | [], L, xs, e, r => by cases e; rw [show xs = [] from r]; exact .nil
  | u :: us, L, xs, e, r => by
    obtain ⟨y, t, rfl, a, b⟩ := r
    cases u with
    | tup ws =>
      simp only [tupsU] at e
      cases e1 : intsU ws with
      | none => rw [e1] at e; cases e
      | some l =>
        rw [e1] at e
        cases e2 : tupsU us with
        | none => rw [e2] at e; cases e
        | some L' =>
          rw [e2] at e
          cases e
          obtain ⟨p, zs, rfl, hq, hz⟩ := a
          obtain rfl := intsU_ok e1 hz
          exact .cons ⟨p, rfl, hq⟩ (tupsU_ok e2 b)
    | _ => cases e
theorem tups_back : ∀ {ys : List V} {L : List (List Int)}, Paired (fun x l => TupI g.K H x l) ys L → VRs g m H (L.map fun l => .tup (l.map .int)) ys
  | _, _, .nil => .nil
  | _, _, .cons ⟨t, e, hq⟩ tl => .cons ⟨t, _, e, hq, VRs.ofI _⟩ (tups_back tl)
theorem allT_ok {d : Nat} {L : List (List Int)} (h : allT d L = true) : OkT (2 ^ 64) d L := fun x hx => by
  have z := List.all_eq_true.mp h x hx
  rw [Bool.and_eq_true] at z
  refine ⟨Nat.eq_of_beq_eq_true z.1, fun i hi => ?_⟩
  have z2 := List.all_eq_true.mp z.2 i hi
  rw [Bool.and_eq_true, decide_eq_true_eq, decide_eq_true_eq] at z2
  exact z2
/-- what any order by the codes leaves -/
theorem sortT_ok {us : List Uv} {L : List (List Int)} {xs ys : List V} {d : Nat} (e : tupsU us = some L) (ok : allT d L = true) (r : VRs g m H us xs) (p : ys.Perm xs)
    (s : ys.Pairwise (fun x y => ∀ n m, TupI g.K H x n → TupI g.K H y m → TS.code (2 ^ 64) n ≤ TS.code (2 ^ 64) m)) : VRs g m H ((srtT L).map fun l => .tup (l.map .int)) ys := by
  obtain ⟨L', q, h'⟩ := perm_pair p (tupsU_ok e r)
  have pw := paired_pw (Q := fun a b => TS.code (2 ^ 64) a ≤ TS.code (2 ^ 64) b) (fun a b x y ra rb z => z x y ra rb) h' s
  rw [← srtT_eq (allT_ok ok) q pw]
  exact tups_back h'
theorem evSortT_ok {us : List Uv} {xs : List V} (hr : HR g m H h) (r : VRs g m H us xs) (s : Sat g W m H (evSortT us h) (VPost g Q)) :
    ∃ d, 1 ≤ d ∧ (∀ x ∈ xs, ∃ ns, TupI g.K H x ns ∧ ns.length = d ∧ TS.Bd (2 ^ 64) ns) ∧
      ∀ (ys : List V) (p : Addr), ys.Perm xs → ys.Pairwise (fun x y => ∀ n m, TupI g.K H x n → TupI g.K H y m → TS.code (2 ^ 64) n ≤ TS.code (2 ^ 64) m) → H p = none → Q (.ref p) (upd H p (.lst ys)) := by
  unfold evSortT at s
  split at s
  · rename_i x rr e
    obtain ⟨c, s⟩ := ite_satb s
    rw [Bool.and_eq_true] at c
    refine ⟨x.length, Nat.le_of_ble_eq_true c.1, fun y hy => ?_, fun ys p hp hs hq => alloc_ok hr s hq ⟨_, rfl, sortT_ok e c.2 r hp hs⟩⟩
    obtain ⟨l, hl, q⟩ := paired_mem (tupsU_ok e r) y hy
    exact ⟨l, q, allT_ok c.2 l hl⟩
  · exact s.no.elim
end
end Rf
set_option maxHeartbeats 4000000
namespace Rf
open PySem PySem.Spec PyProof.Rows L2 RfS
/-- a list of one pair of ints, sorted -/
def rSorted1 (K : PySem.W.Frag) : List V → Hp → VK → Prop := fun vs H Q => ∃ (a : Addr) (t : Addr) (i j : Int), vs = [V.ref a] ∧ SqL K H a [.ref t] ∧ SqT K H t [.int i, .int j] ∧ ∀ p, H p = none → Q (.ref p) (upd H p (.lst [.ref t]))
theorem cr_sorted1 {X : Cx} : CallR X (.builtin "sorted") (rSorted1 X.K) := by
  intro pins s σ H vs us Q I r h
  obtain ⟨a, t, i, j, rfl, hs, ht, q⟩ := h
  obtain ⟨its, rv, hl, hz⟩ := I.list hs
  obtain ⟨u, rfl, ru⟩ := vals1 r
  obtain rfl : u = Value.ref a := ru
  obtain ⟨ut, rfl, rt⟩ := vals1 rv
  obtain rfl : ut = Value.ref t := rt
  obtain ⟨its2, r2, ⟨o, ho, hc, n, hd⟩, _⟩ := I.tuple ht
  obtain ⟨u1, u2, rfl, ri, rj⟩ := vals2 r2
  obtain ⟨t1, rfl⟩ := ri
  obtain ⟨t2, rfl⟩ := rj
  refine Srt.sorted_pairs hl.isList hz (fun v hv => ?_) fun h' d out hp k hd' hn => ?_
  · obtain rfl := List.mem_singleton.mp hv
    exact ⟨i, j, t, o, t1, t2, n, rfl, ho, hc, hd⟩
  · obtain ⟨n', hn⟩ := hn
    have e : out = [.ref t] := List.perm_singleton.mp hp
    subst e
    exact ⟨.ref d, upd H d (.lst [.ref t]), I.laid (t' := s.toks) k hd' ⟨hz, _, n', .cons rfl .nil, hn⟩, rfl, q d (I.hok.fresh hd')⟩
section
variable {X : Cx}
/-! ### rules of builtins that the hand layer lacks -/
def rLenD : List V → Hp → VK → Prop := fun xs H Q => ∃ a kvs, xs = [.ref a] ∧ H a = some (.dK kvs) ∧ Q (.int kvs.length) H
theorem cr_lenD : CallR X (.builtin "len") rLenD := by
  intro pins s σ H xs us Q I r q
  obtain ⟨a, kvs, rfl, e, q⟩ := q
  obtain ⟨u, rfl, rx⟩ := vals1 r
  cases rx
  obtain ⟨z, hd, vs, rel, dd⟩ := dk_rd I.hok (.inl e)
  refine call_len_dict hd dd (by rw [← rel.length]; rw [sizeLine_eq] at z; omega) ?_
  exact ⟨.int kvs.length, H, I.tok _, ⟨_, by rw [rel.length]⟩, q⟩
def rRepr (K : PySem.W.Frag) : List V → Hp → VK → Prop := fun xs H Q => ∃ x d, xs = [x] ∧ Dp K H x d ∧ SeqAt.shaped d = true ∧ d.showable = true ∧ d.shown.length ≤ sizeLine ∧ Q (.str d.shown) H
theorem cr_repr (hg : X.A.guards = some []) (hu : X.A.units + 66 < cLine) : CallR X (.builtin "repr") (rRepr X.K) := by
  intro pins s σ H xs us Q I r q
  obtain ⟨x, d, rfl, hd, hs, hw, hz, q⟩ := q
  obtain ⟨u, rfl, rx⟩ := vals1 r
  have q' : Q (.str d.shown) H := q
  have hnd := PyData.hasDict_of_canLay d (SeqAt.canLay_of_shaped hs)
  have hdep : d.depth ≤ 64 := of_decide_eq_true (Bool.and_eq_true_iff.mp hs).2
  obtain ⟨as, rd⟩ := Dp.reads I d x u hd rx
  cases hd with
  | non =>
    cases rx
    simp only [PyData.shown] at q
    exact PySem.P.repr_of_none ⟨.str _, H, I.tok _, ⟨_, rfl⟩, q⟩
  | bl b =>
    cases rx
    simp only [PyData.shown] at q
    exact PySem.P.repr_of_bool ⟨.str _, H, I.tok _, ⟨_, rfl⟩, q⟩
  | int i =>
    obtain ⟨t, rfl⟩ := rx
    simp only [PyData.shown] at q
    exact PySem.P.repr_of_int (by simpa [PyData.showable] using hw) ⟨.str _, H, I.tok _, ⟨_, rfl⟩, q⟩
  | str i =>
    obtain ⟨t, rfl⟩ := rx
    simp only [PyData.shown] at q hz
    exact PySem.P.repr_of_str ⟨.str _, H, I.tok _, ⟨_, rfl⟩, q⟩ hz
  | lst h1 h2 =>
    cases rx
    exact repr_of_reads' rd hw (PyData.noDict_hsm hnd) hg (by omega) (fun _ _ e => e) (fun h' u tk hk => ⟨.str _, H, I.kept hk, ⟨_, rfl⟩, q'⟩) hz
  | tup h1 h2 =>
    cases rx
    exact repr_of_reads' rd hw (PyData.noDict_hsm hnd) hg (by omega) (fun _ _ e => e) (fun h' u tk hk => ⟨.str _, H, I.kept hk, ⟨_, rfl⟩, q'⟩) hz
/-- d.update(d2) -/
def rUpd : V → List V → Hp → VK → Prop := fun x vs H Q => ∃ a b kvs more, x = .ref a ∧ vs = [.ref b] ∧ a ≠ b ∧ H a = some (.dK kvs) ∧ H b = some (.dK more) ∧ kvs.length + more.length ≤ sizeLine ∧
  Q .non (upd H a (.dK (more.foldl (fun acc p => putK acc p.1 p.2) kvs)))
theorem merged_rel : ∀ {more : List (Key × V)} {mv : List (Key × Value)} {kvs : List (Key × V)} {vs : List (Key × Value)}, KV more mv → KV kvs vs → KV (more.foldl (fun acc p => putK acc p.1 p.2) kvs) (merged vs mv)
  | [], _, _, _, .nil, r => r
  | p :: more, _, kvs, vs, .cons a b, r => by
    obtain ⟨k, x⟩ := p
    obtain ⟨a1, a2⟩ := a
    rename_i q _
    obtain ⟨k', y⟩ := q
    cases a1
    show KV (more.foldl _ (putK kvs k x)) (merged (stored vs k y) _)
    exact merged_rel b (r.put k a2)
theorem length_merge : ∀ (more kvs : List (Key × V)), (more.foldl (fun acc p => putK acc p.1 p.2) kvs).length ≤ kvs.length + more.length
  | [], kvs => by simp
  | p :: more, kvs => by
    have h1 := length_merge more (putK kvs p.1 p.2)
    have h2 := length_putK kvs p.1 p.2
    simp only [List.foldl_cons, List.length_cons]
    omega
theorem mt_upd : MtM X "dict.update" rUpd := by
  intro pins s σ H x vs v us Q I rx rv q
  obtain ⟨a, b, kvs, more, rfl, rfl, hne, ea, eb, hz, q⟩ := q
  cases rx
  obtain ⟨u, rfl, ru⟩ := rv.one
  cases ru
  obtain ⟨z1, hd1, v1, r1, d1⟩ := dk_of I.hok ea
  obtain ⟨z2, hd2, v2, r2, d2⟩ := dk_of I.hok eb
  refine call_meetsIn PySem.F.slot_dict_update d1.typeIs PySem.F.entry_dict_update (PySem.F.args_dict_update_2 _ _) (meets_dict_update (mixKind X.prog X.w) a b hne hd2)
    ⟨v1, v2, d1, d2, by rw [← r1.length, ← r2.length]; exact hz, fun h' dd' _ hs => ?_⟩
  have he : ∃ q, h'.get? a = some q := let ⟨q, _, _, hq, _⟩ := dd'; ⟨q, hq⟩
  refine ⟨.non, _, d_write I (by rw [ea]; exact True.intro) hs he (dk_new ?_ hd1 (merged_rel r2 r1) dd'), rfl, q⟩
  exact Nat.le_trans (length_merge _ _) hz
theorem ext_tup (l : Addr) (items : Array Value) (n : Nat) (b : Addr) (items2 : Array Value) (n2 : Nat) (dd : Option Addr) (sl : Array (Option Value)) (hs0 : ¬(!items.isEmpty && Builtin.List.listTooLong (items.size + items2.size)) = true) (hs1 : items.size ≤ sizeLine) (hs2 : items.size + items2.size ≤ sizeLine + 1) :
    Meets (Builtin.«list.extend» ⟨[.ref l, .ref b], []⟩) (fun _ R s => s.heap.get? l = some { cls := .type "list", dict := none, data := .seq items n, slots := #[] } ∧
      s.heap.get? b = some { cls := .type "tuple", dict := dd, data := .seq items2 n2, slots := sl } ∧ R (.ok (.ret Value.none)) { s with heap := s.heap.update l (Obj.mapSeq fun x => x ++ items2), toks := s.toks }) :=
  .of_wp fun prog w A R s h => by
    obtain ⟨hp, g, d, tk, os⟩ := s; obtain ⟨hl, hb, h⟩ := h
    have f1 := AutoSeq1.idx_int; have f2 := AutoSeq1.sub_tuple_tuple; have f3 := AutoSeq1.sub_list_list
    have f4 := AutoSeq1.sub_tuple_list; have f5 := AutoSeq1.sub_list_tuple
    have hz' : (items ++ items2).size ≤ sizeLine + 1 := by rw [Array.size_append]; exact hs2
    wp_walk using (wpAny_updateSeq hl rfl (hz := hs1) (_hz' := hz')), wpAny_loadPart' hl, wpAny_loadPart' hb
    exact ⟨_, rfl, h⟩
/-- xs.extend(t), t a tuple -/
def rExtT (K : PySem.W.Frag) : V → List V → Hp → VK → Prop := fun x vs H Q => ∃ l b xs zs, x = .ref l ∧ vs = [.ref b] ∧ H l = some (.lst xs) ∧ SqT K H b zs ∧ xs.length + zs.length ≤ sizeLine ∧ Q .non (upd H l (.lst (xs ++ zs)))
theorem mt_extT : MtM X "list.extend" (rExtT X.K) := by
  intro pins s σ H x vs v us Q I rx rv h
  obtain ⟨l, b, xs, zs, rfl, rfl, hH, hB, hz, q⟩ := h
  cases rx
  obtain ⟨u, rfl, ru⟩ := rv.one
  cases ru
  obtain ⟨z, its, n, r, hl, e⟩ := I.lstM hH
  obtain ⟨its2, r2, ⟨⟨cls, dd, data, sls⟩, e2, hc, n2, hd2⟩, hz2⟩ := I.tuple hB
  simp only at hc hd2
  subst hc hd2
  have hl2 := r2.length
  have hsz : its.toArray.size + its2.toArray.size ≤ sizeLine := by rw [List.size_toArray, List.size_toArray]; omega
  have hlong : ¬ (!its.toArray.isEmpty && Builtin.List.listTooLong (its.toArray.size + its2.toArray.size)) = true := by
    rw [notLongL hsz, Bool.and_false]
    exact Bool.false_ne_true
  refine call_meets F.slot_list_extend ⟨_, e, rfl⟩ F.entry_list_extend (F.args_list_extend_2 _ _)
    (ext_tup l its.toArray n b its2.toArray n2 dd sls hlong (by rw [List.size_toArray]; omega) (by omega)) ⟨e, e2, ?_⟩
  refine ⟨.non, _, I.lset (its' := its ++ its2) hH e (by simp) (r.append r2) ?_, rfl, q⟩
  rw [List.length_append]
  omega
end
/-! ### builtins -/
def biV : Bi → Value
  | .len => .builtin "len" | .tuple => .type "tuple" | .list => .type "list" | .sorted => .builtin "sorted" | .all => .builtin "all" | .any => .builtin "any"
  | .min2 => .builtin "min" | .max2 => .builtin "max" | .abs => .builtin "abs" | .int => .type "int" | .repr => .builtin "repr" | .lenset => .none | .tuprng => .none | .minD => .builtin "min" | .dvals => .none | .dict => .type "dict"
def biN : Bi → Str
  | .len => "len" | .tuple => "tuple" | .list => "list" | .sorted => "sorted" | .all => "all" | .any => "any"
  | .min2 => "min" | .max2 => "max" | .abs => "abs" | .int => "int" | .repr => "repr" | .lenset => "" | .tuprng => "" | .minD => "min" | .dvals => "" | .dict => "dict"
def biCalm : Bi → Bool
  | .sorted => true | .all => true | .any => true | .min2 => true | .max2 => true | .lenset => true | .tuprng => true | .minD => true | .dvals => true | .tuple => true | .list => true | .dict => true | _ => false
/-- tuples of whole numbers sorted: of a list, of a dict's keys -/
def rSortTs (P : Program) (w : World) (K : PySem.W.Frag) : List V → Hp → VK → Prop := fun xs H Q => (∃ d B, 1 ≤ d ∧ rSortU K d B xs H Q) ∨ ∃ d B, 1 ≤ d ∧ rSortN P w K d B xs H Q
theorem cr_sortTs {X : Cx} (hc : X.calm = true) : CallR X (.builtin "sorted") (rSortTs X.prog X.w X.K) := by
  intro pins s σ H xs us Q I r q
  rcases q with ⟨d, B, hd, q⟩ | ⟨d, B, hd, q⟩
  · exact cr_sortT hd pins s σ H xs us Q I r q
  · exact cr_sortN hc hd pins s σ H xs us Q I r q
def rListDk : List V → Hp → VK → Prop := fun xs H Q => ∃ (a : Addr) (kvs : List (Key × V)), xs = [.ref a] ∧ Rd H a (.dK kvs) ∧ ∀ p, H p = none → Q (.ref p) (upd H p (.lst (kvs.map fun kv => kV kv.1)))
def rDictP (K : PySem.W.Frag) : List V → Hp → VK → Prop := fun xs H Q => ∃ (a : Addr) (ps : List Addr) (kvs : List (Key × V)), xs = [.ref a] ∧ SqL K H a (ps.map V.ref) ∧ Paired (fun p kv => SqT K H p [kV kv.1, kv.2]) ps kvs ∧ ∀ p, H p = none → Q (.ref p) (upd H p (.dK (mergeK [] kvs)))
def rBi (P : Program) (w : World) (K : PySem.W.Frag) : Bi → List V → Hp → VK → Prop
  | .len => fun xs H Q => (∃ x n, xs = [x] ∧ LenV K x H n ∧ Q (.int n) H) ∨ rLenD xs H Q
  | .tuple => fun xs H Q => (∃ p ys, xs = [.ref p] ∧ ((SqL K H p ys ∧ ∀ l, H l = none → Q (.ref l) (upd H l (.tup ys))) ∨ (SqT K H p ys ∧ Q (.ref p) H))) ∨ rTupD xs H Q
  | .list => fun xs H Q => (∃ p ys, xs = [.ref p] ∧ (SqL K H p ys ∨ SqT K H p ys) ∧ ∀ l, H l = none → Q (.ref l) (upd H l (.lst ys))) ∨ rListDk xs H Q
  | .minD => rMinK
  | .dict => rDictP K
  | .sorted => fun xs H Q => rSortTs P w K xs H Q ∨ (rSorted K xs H Q ∨ rSortedS K xs H Q ∨ rSorted1 K xs H Q) ∨
      (∃ (a : Addr) (kvs : List (Key × V)) (ks : List Str), xs = [.ref a] ∧ Rd H a (.dK kvs) ∧ kvs.map (·.1) = ks.map Sum.inr ∧ ks.length < 64 ∧ ∀ ys p, ys.Perm ks → sortedS ys = true → H p = none → Q (.ref p) (upd H p (.lst (ys.map V.str)))) ∨
      (∃ (a : Addr) (kvs : List (Key × V)) (ks : List Int), xs = [.ref a] ∧ Rd H a (.dK kvs) ∧ kvs.map (·.1) = ks.map Sum.inl ∧ ks.length < 64 ∧ ∀ (ys : List Int) (p : Addr), ys.Perm ks → ys.Pairwise (· ≤ ·) → H p = none → Q (.ref p) (upd H p (.lst (ys.map V.int))))
  | .all => rAll K
  | .any => rAny K
  | .min2 => fun xs H Q => ∃ i j, xs = [.int i, .int j] ∧ Q (.int (if j < i then j else i)) H
  | .max2 => fun xs H Q => ∃ i j, xs = [.int i, .int j] ∧ Q (.int (if j > i then j else i)) H
  | .abs => fun xs H Q => ∃ i, xs = [.int i] ∧ Q (.int (if i < 0 then -i else i)) H
  | .int => fun xs H Q => (∃ i, xs = [.int i] ∧ Q (.int i) H) ∨ ∃ k, xs = [.bl k] ∧ Q (.int (if k then 1 else 0)) H
  | .repr => rRepr K
  | _ => fun _ _ _ => False
theorem cr_bi {X : Cx} (hg : X.A.guards = some []) (hu : X.A.units + 66 < cLine) : ∀ b, (biCalm b = true → X.calm = true) → CallR X (biV b) (rBi X.prog X.w X.K b)
  | .len, _ => call_len.or cr_lenD
  | .tuple, hc => call_tuple_of.or (call_tupleD (hc rfl))
  | .list, hc => call_list_of.or (call_listD (hc rfl))
  | .minD, hc => cr_minK (hc rfl)
  | .dict, hc => call_dictP (hc rfl)
  | .dvals, _ => fun _ _ _ _ _ _ _ _ _ h => h.elim
  | .sorted, hc => (cr_sortTs (hc rfl)).or <| (cr_sorted.or (cr_sortedS.or cr_sorted1)).or ((call_sortedD (hc rfl)).or (call_sortedDI (hc rfl)))
  | .all, hc => cr_all (hc rfl)
  | .any, hc => cr_any (hc rfl)
  | .min2, hc => call_min2 (hc rfl)
  | .max2, hc => call_max2 (hc rfl)
  | .abs, _ => call_abs
  | .int, _ => call_int1
  | .repr, _ => cr_repr hg hu
  | .lenset, _ => fun _ _ _ _ _ _ _ _ _ h => h.elim
  | .tuprng, _ => fun _ _ _ _ _ _ _ _ _ h => h.elim
section
variable {g : Gs} {W : WX} {m : List Addr} {H : Hp} {h : List Ob} {Q : VK}
theorem VRs.one {x : Uv} {vs : List V} (r : VRs g m H [x] vs) : ∃ y, vs = [y] ∧ VR g m H x y := by
  obtain ⟨y, t, rfl, a, b⟩ := r
  rw [show t = [] from b]
  exact ⟨y, rfl, a⟩
theorem VRs.two {x x' : Uv} {vs : List V} (r : VRs g m H [x, x'] vs) : ∃ y y', vs = [y, y'] ∧ VR g m H x y ∧ VR g m H x' y' := by
  obtain ⟨y, t, rfl, a, b⟩ := r
  obtain ⟨y', rfl, c⟩ := VRs.one b
  exact ⟨y, y', rfl, a, c⟩
theorem items_ok {u : Uv} {v : V} {xs : List Uv} (hr : HR g m H h) (r : VR g m H u v) (e : itemsU u h = some xs) : ∃ p ys, v = .ref p ∧ (SqL g.K H p ys ∨ SqT g.K H p ys) ∧ VRs g m H xs ys := by
  unfold itemsU at e
  split at e
  · cases e
    obtain ⟨p, ys, rfl, hp, hx⟩ := r
    exact ⟨p, ys, rfl, .inr hp, hx⟩
  · split at e
    · rename_i xs' e0
      cases e
      obtain ⟨p, ys, rfl, _, k1, hx⟩ := hr.getL r e0
      exact ⟨p, ys, rfl, .inl (SqL.of k1), hx⟩
    · cases e
  · cases e
theorem KRs.keys : ∀ {xs : List (Key × Uv)} {ys : List (Key × V)}, KRs g m H xs ys → ys.map (·.1) = xs.map (·.1)
  | [], _, r => by rw [show _ = [] from r] <;> rfl
  | (k, x) :: xs, _, r => by
    obtain ⟨y, t, rfl, a, b⟩ := r
    rw [List.map_cons, List.map_cons, KRs.keys b]
theorem intKeys : ∀ {kvs : List (Key × Uv)} {l : List Int}, intsU (kvs.map fun p => uKey p.1) = some l → kvs.map (·.1) = l.map Sum.inl
  | [], _, e => by cases e; rfl
  | (k, x) :: kvs, l, e => by
    cases k with
    | inl i =>
      have e : (intsU (kvs.map fun p => uKey p.1)).map (i :: ·) = some l := e
      cases e1 : intsU (kvs.map fun p => uKey p.1) with
      | none => rw [e1] at e; cases e
      | some l' =>
        rw [e1] at e
        cases e
        rw [List.map_cons, intKeys e1] <;> rfl
    | inr i => cases e
theorem strKeys : ∀ {kvs : List (Key × Uv)} {l : List Str}, strsU (kvs.map fun p => uKey p.1) = some l → kvs.map (·.1) = l.map Sum.inr
  | [], _, e => by cases e; rfl
  | (k, x) :: kvs, l, e => by
    cases k with
    | inr i =>
      have e : (strsU (kvs.map fun p => uKey p.1)).map (i :: ·) = some l := e
      cases e1 : strsU (kvs.map fun p => uKey p.1) with
      | none => rw [e1] at e; cases e
      | some l' =>
        rw [e1] at e
        cases e
        rw [List.map_cons, strKeys e1] <;> rfl
    | inl i => cases e
theorem KRs.keyV : ∀ {xs : List (Key × Uv)} {ys : List (Key × V)}, KRs g m H xs ys → VRs g m H (xs.map fun p => uKey p.1) (ys.map fun p => kV p.1)
  | [], _, r => by rw [show _ = [] from r]; exact .nil
  | (k, x) :: xs, _, r => by
    obtain ⟨y, t, rfl, a, b⟩ := r
    exact .cons (by cases k <;> rfl) (KRs.keyV b)
theorem KRs.valV' : ∀ {xs : List (Key × Uv)} {ys : List (Key × V)}, KRs g m H xs ys → VRs g m H (xs.map (·.2)) (ys.map (·.2))
  | [], _, r => by rw [show _ = [] from r]; exact .nil
  | (k, x) :: xs, _, r => by
    obtain ⟨y, t, rfl, a, b⟩ := r
    exact .cons a (KRs.valV' b)
theorem itemsD_ok {u : Uv} {v : V} {xs : List Uv} (hr : HR g m H h) (r : VR g m H u v) (e : itemsD u h = some xs) : ∃ p ys, v = .ref p ∧ ((SqL g.K H p ys ∨ SqT g.K H p ys) ∨ ∃ kvs : List (Key × V), Rd H p (.dK kvs) ∧ ys = kvs.map fun e => kV e.1) ∧ VRs g m H xs ys := by
  unfold itemsD at e
  split at e
  · cases e
    obtain ⟨p, ys, rfl, hp, hx⟩ := r
    exact ⟨p, ys, rfl, .inl (.inr hp), hx⟩
  · split at e
    · rename_i xs' e0
      cases e
      obtain ⟨p, ys, rfl, _, k1, hx⟩ := hr.getL r e0
      exact ⟨p, ys, rfl, .inl (.inl (SqL.of k1)), hx⟩
    · rename_i kvs e0
      cases e
      obtain ⟨p, l, rfl, _, k1, hx⟩ := hr.getD r e0
      exact ⟨p, _, rfl, .inr ⟨l, .inl k1, rfl⟩, hx.keyV⟩
    · rename_i kvs e0
      cases e
      obtain ⟨p, od, l, rfl, _, k1, hx⟩ := hr.getK r e0
      exact ⟨p, _, rfl, .inr ⟨l, .inr ⟨od, k1⟩, rfl⟩, hx.keyV⟩
    · cases e
  · cases e
theorem min_fold : ∀ (r : List Int) (x : Int), (r.foldl (fun a b => if b < a then b else a) x) ∈ x :: r ∧ ∀ j ∈ x :: r, (r.foldl (fun a b => if b < a then b else a) x) ≤ j
  | [], x => ⟨List.mem_cons_self, fun j hj => by rw [List.mem_singleton.mp hj]; exact Int.le_refl _⟩
  | y :: r, x => by
    rw [List.foldl_cons]
    by_cases c : y < x
    · rw [if_pos c]
      obtain ⟨h1, h2⟩ := min_fold r y
      refine ⟨List.mem_cons_of_mem _ h1, fun j hj => ?_⟩
      rcases List.mem_cons.mp hj with e | hj
      · subst e
        have := h2 y List.mem_cons_self
        omega
      · exact h2 j hj
    · rw [if_neg c]
      obtain ⟨h1, h2⟩ := min_fold r x
      refine ⟨?_, fun j hj => ?_⟩
      · rcases List.mem_cons.mp h1 with e | h1
        · rw [e]; exact List.mem_cons_self
        · exact List.mem_cons_of_mem _ (List.mem_cons_of_mem _ h1)
      · rcases List.mem_cons.mp hj with e | hj
        · subst e; exact h2 _ List.mem_cons_self
        · rcases List.mem_cons.mp hj with e | hj
          · subst e
            have := h2 x List.mem_cons_self
            omega
          · exact h2 j (List.mem_cons_of_mem _ hj)
theorem NKs.keyV : ∀ {kvs : List (Uv × Uv)} {xs : List (NestedKey × Addr × V)}, NKs g m H kvs xs → VRs g m H (kvs.map (·.1)) (xs.map fun x => V.ref x.2.1)
  | [], _, r => by rw [show _ = [] from r]; exact .nil
  | (u, w) :: kvs, _, r => by
    obtain ⟨k', b', y, t, rfl, n, r1, r2, r3⟩ := r
    exact .cons r1 (NKs.keyV r3)
theorem prsU_ok : ∀ {xs : List Uv} {ys : List V} {kus : List (Key × Uv)}, prsU xs = some kus → VRs g m H xs ys → ∃ (ps : List Addr) (kvs : List (Key × V)), ys = ps.map V.ref ∧ Paired (fun p kv => SqT g.K H p [kV kv.1, kv.2]) ps kvs ∧ KRs g m H kus kvs
  | [], ys, kus, e, r => by
    cases e
    rw [show ys = [] from r]
    exact ⟨[], [], rfl, .nil, rfl⟩
  | x :: xs, ys, kus, e, r => by
    obtain ⟨y, t, rfl, r1, r2⟩ := r
    unfold prsU at e
    split at e
    · rename_i ex
      cases ex
    · rename_i k w rr ex
      cases ex
      split at e
      · rename_i key l ek el
        cases e
        obtain ⟨ps, kvs, rfl, h1, h2⟩ := prsU_ok el r2
        obtain ⟨p, zs, rfl, hq, hz⟩ := r1
        obtain ⟨z1, z2, rfl, a1, a2⟩ := VRs.two hz
        refine ⟨p :: ps, (key, z2) :: kvs, rfl, .cons (by rw [← key_ok ek a1]; exact hq) h1, z2, kvs, rfl, a2, h2⟩
      · cases e
    · cases e
theorem mergeG_ok : ∀ {kus : List (Key × Uv)} {kvs : List (Key × V)} {as : List (Key × Uv)} {bs : List (Key × V)}, KRs g m H kus kvs → KRs g m H as bs → KRs g m H (mergeG as kus) (mergeK bs kvs)
  | [], kvs, _, _, r, q => by
    rw [show kvs = [] from r]
    exact q
  | (k, u) :: kus, _, _, _, r, q => by
    obtain ⟨y, t, rfl, a, b⟩ := r
    exact mergeG_ok (kus := kus) (kvs := t) b (gPut_ok a q)
/-- a dict's keys sorted, of one that a loop goes over, too -/
theorem sort_dk {p : Addr} {kvs : List (Key × Uv)} {ys : List (Key × V)} (hr : HR g m H h) (k1 : Rd H p (.dK ys)) (hx : KRs g m H kvs ys) (s : Sat g W m H (evSort (kvs.map fun p => uKey p.1) h) (VPost g Q)) : rBi g.P g.w g.K .sorted [.ref p] H Q := by
  unfold evSort at s
  obtain ⟨c, s⟩ := ite_sat s
  rw [List.length_map] at c
  split at s
  · rename_i l e1
    have ek := intKeys e1
    have hl : l.length < 64 := by
      have := congrArg List.length ek
      simp only [List.length_map] at this
      omega
    exact .inr (.inr (.inr ⟨p, ys, l, rfl, k1, hx.keys.trans ek, hl, fun ns' q h1 h2 hq => by rw [srtI_eq h1 h2]; exact alloc_ok hr s hq ⟨_, rfl, VRs.ofI _⟩⟩))
  · split at s
    · rename_i l e1
      have ek := strKeys e1
      have hl : l.length < 64 := by
        have := congrArg List.length ek
        simp only [List.length_map] at this
        omega
      exact .inr (.inr (.inl ⟨p, ys, l, rfl, k1, hx.keys.trans ek, hl, fun ns' q h1 h2 hq => by rw [srtS_eq h1 h2]; exact alloc_ok hr s hq ⟨_, rfl, VRs.ofS _⟩⟩))
    · split at s
      · rename_i e9
        cases hks : kvs with
        | nil => rw [hks] at e9; cases e9
        | cons z zs =>
          rw [hks] at e9
          obtain ⟨kz, wz⟩ := z
          have e8 : uKey kz = _ := (List.cons.inj e9).1
          cases kz <;> cases e8
      · rename_i e1 e2 _
        unfold evSortT at s
        split at s
        · rename_i x rr e3
          cases hks : kvs with
          | nil => rw [hks] at e3; cases e3
          | cons z zs =>
            rw [hks] at e3
            obtain ⟨kz, wz⟩ := z
            cases kz <;> cases e3
        · exact s.no.elim
theorem bi_ok {b : Bi} {us : List Uv} {vs : List V} (hb : b ≠ .lenset) (hb' : b ≠ .tuprng) (hb2 : b ≠ .dvals) (hr : HR g m H h) (r : VRs g m H us vs) (s : Sat g W m H (evBi b us h) (VPost g Q)) : rBi g.P g.w g.K b vs H Q := by
  unfold evBi at s
  split at s
  · obtain ⟨v, rfl, rv⟩ := r.one
    split at s
    · cases rv
      obtain ⟨c, s⟩ := ite_sat s
      exact .inl ⟨_, _, rfl, ⟨lim_le c, rfl⟩, same_ok hr s rfl⟩
    · split at s
      · rename_i xs e0
        obtain ⟨p, ys, rfl, _, k1, hx⟩ := hr.getL rv e0
        exact .inl ⟨_, _, rfl, .inl ⟨ys, SqL.of k1, rfl⟩, by rw [← hx.length]; exact same_ok hr s rfl⟩
      · rename_i xs e0
        obtain ⟨p, ys, rfl, _, k1, hx⟩ := hr.getD rv e0
        exact .inr ⟨p, ys, rfl, k1, by rw [← hx.length]; exact same_ok hr s rfl⟩
      · exact s.no.elim
    · obtain ⟨p, ys, rfl, hp, hx⟩ := rv
      exact .inl ⟨_, _, rfl, .inr ⟨ys, hp, rfl⟩, by rw [← hx.length]; exact same_ok hr s rfl⟩
    · exact s.no.elim
  · obtain ⟨v, rfl, rv⟩ := r.one
    split at s
    · rename_i xs e
      obtain ⟨p, ys, rfl, (hp | hp) | ⟨kvs, hd, rfl⟩, hx⟩ := itemsD_ok hr rv e
      · exact .inl ⟨p, ys, rfl, .inl ⟨hp, fun q hq => tup_ok hr s hq hx⟩⟩
      · exact .inl ⟨p, ys, rfl, .inr ⟨hp, same_ok hr s ⟨p, ys, rfl, hp, hx⟩⟩⟩
      · exact .inr ⟨p, kvs, rfl, hd, fun q hq => tup_ok hr s hq hx⟩
    · exact s.no.elim
  · obtain ⟨v, rfl, rv⟩ := r.one
    split at s
    · rename_i xs e
      obtain ⟨p, ys, rfl, hp | ⟨kvs, hd, rfl⟩, hx⟩ := itemsD_ok hr rv e
      · exact .inl ⟨p, ys, rfl, hp, fun q hq => alloc_ok hr s hq ⟨_, rfl, hx⟩⟩
      · exact .inr ⟨p, kvs, rfl, hd, fun q hq => alloc_ok hr s hq ⟨_, rfl, hx⟩⟩
    · exact s.no.elim
  · obtain ⟨v, rfl, rv⟩ := r.one
    split at s
    · rename_i xs e0
      obtain ⟨p, ys, rfl, _, k1, hx⟩ := hr.getL rv e0
      unfold evSort at s
      obtain ⟨c, s⟩ := ite_sat s
      split at s
      · rename_i l e1
        obtain rfl := intsU_ok e1 hx
        have hl : l.length < 64 := by rw [← List.length_map (f := V.int), ← hx.length]; exact c
        exact .inr (.inl (.inl ⟨p, l, rfl, SqL.of k1, hl, fun ns' q h1 h2 hq => by rw [srtI_eq h1 h2]; exact alloc_ok hr s hq ⟨_, rfl, VRs.ofI _⟩⟩))
      · split at s
        · rename_i l e1
          obtain rfl := strsU_ok e1 hx
          have hl : l.length < 64 := by rw [← List.length_map (f := V.str), ← hx.length]; exact c
          exact .inr (.inl (.inr (.inl ⟨p, l, rfl, SqL.of k1, hl, fun ns' q h1 h2 hq => by rw [srtS_eq h1 h2]; exact alloc_ok hr s hq ⟨_, rfl, VRs.ofS _⟩⟩)))
        · split at s
          · obtain ⟨v, t0, rfl, rv, e0⟩ := hx
            rw [show t0 = [] from e0] at k1
            obtain ⟨pt, yt, rfl, ht, h2⟩ := rv
            obtain ⟨v1, t1, rfl, r1, v2, t2, rfl, r2, e2⟩ := h2
            cases r1
            cases r2
            rw [show t2 = [] from e2] at ht
            exact .inr (.inl (.inr (.inr ⟨p, pt, _, _, rfl, SqL.of k1, ht, fun q hq => alloc_ok hr s hq ⟨_, rfl, .ref pt, [], rfl, ⟨pt, _, rfl, ht, .cons rfl (.cons rfl .nil)⟩, rfl⟩⟩)))
          · obtain ⟨d, hd, h1, h2⟩ := evSortT_ok hr hx s
            exact .inl (.inl ⟨d, 2 ^ 64, hd, p, ys, rfl, SqL.of k1, by rw [← hx.length]; exact c, h1, h2⟩)
    · rename_i kvs e0
      obtain ⟨p, ys, rfl, _, k1, hx⟩ := hr.getD rv e0
      exact sort_dk hr (.inl k1) hx s
    · rename_i kvs e0
      obtain ⟨p, od, ys, rfl, _, k1, hx⟩ := hr.getK rv e0
      exact sort_dk hr (.inr ⟨od, k1⟩) hx s
    · rename_i i kvs e0
      obtain ⟨c, s⟩ := ite_satb s
      rw [Bool.and_eq_true] at c
      obtain ⟨p, xs, rfl, _, _, r, dd⟩ := hr.getN rv e0 (Nat.eq_of_beq_eq_true c.1)
      obtain ⟨d, hd, h1, h2⟩ := evSortT_ok hr r.keyV s
      exact .inl (.inr ⟨d, 2 ^ 64, hd, p, xs, rfl, dd, by rw [← r.length]; exact Nat.blt_eq.mp c.2, fun x hx => h1 _ (List.mem_map.mpr ⟨x, hx, rfl⟩), h2⟩)
    · exact s.no.elim
  · obtain ⟨v, rfl, rv⟩ := r.one
    split at s
    · rename_i xs e0
      obtain ⟨p, ys, rfl, _, k1, hx⟩ := hr.getL rv e0
      split at s
      · rename_i kus ek
        obtain ⟨ps, kvs, rfl, h1, h2⟩ := prsU_ok ek hx
        exact ⟨p, ps, kvs, rfl, SqL.of k1, h1, fun q hq => alloc_ok hr s hq ⟨_, rfl, mergeG_ok h2 rfl⟩⟩
      · exact s.no.elim
    · exact s.no.elim
  · exact (hb2 rfl).elim
  · obtain ⟨v, rfl, rv⟩ := r.one
    split at s
    · rename_i kvs e0
      obtain ⟨p, ys, rfl, _, k1, hx⟩ := hr.getD rv e0
      split at s
      · rename_i x rr e1
        have ek := intKeys e1
        have hm := min_fold rr x
        refine ⟨p, ys, x :: rr, rfl, k1, hx.keys.trans ek, List.cons_ne_nil _ _, fun mm h1 h2 => ?_⟩
        have e : mm = rr.foldl (fun a b => if b < a then b else a) x := by
          have a1 := h2 _ hm.1
          have a2 := hm.2 mm h1
          omega
        rw [e]
        exact same_ok hr s rfl
      · exact s.no.elim
    · exact s.no.elim
  · obtain ⟨v, rfl, rv⟩ := r.one
    split at s
    · rename_i xs e0
      split at s
      · rename_i l e1
        obtain ⟨p, ys, rfl, _, k1, hx⟩ := hr.getL rv e0
        obtain rfl := blsU_ok e1 hx
        exact ⟨p, l, rfl, SqL.of k1, same_ok hr s rfl⟩
      · exact s.no.elim
    · exact s.no.elim
  · obtain ⟨v, rfl, rv⟩ := r.one
    split at s
    · rename_i xs e0
      split at s
      · rename_i l e1
        obtain ⟨p, ys, rfl, _, k1, hx⟩ := hr.getL rv e0
        obtain rfl := blsU_ok e1 hx
        exact ⟨p, l, rfl, SqL.of k1, same_ok hr s rfl⟩
      · exact s.no.elim
    · exact s.no.elim
  · obtain ⟨v, v', rfl, rv, rv'⟩ := r.two
    cases rv; cases rv'
    exact ⟨_, _, rfl, same_ok hr s rfl⟩
  · obtain ⟨v, v', rfl, rv, rv'⟩ := r.two
    cases rv; cases rv'
    exact ⟨_, _, rfl, same_ok hr s rfl⟩
  · obtain ⟨v, rfl, rv⟩ := r.one
    cases rv
    exact ⟨_, rfl, same_ok hr s rfl⟩
  · obtain ⟨v, rfl, rv⟩ := r.one
    cases rv
    exact .inl ⟨_, rfl, same_ok hr s rfl⟩
  · obtain ⟨v, rfl, rv⟩ := r.one
    cases rv
    exact .inr ⟨_, rfl, same_ok hr s rfl⟩
  · obtain ⟨v, rfl, rv⟩ := r.one
    split at s
    · rename_i x e
      unfold reprU at e
      split at e
      · rename_i d ed
        split at e
        · rename_i c
          cases e
          rw [Bool.and_eq_true, Bool.and_eq_true, decide_eq_true_eq] at c
          exact ⟨v, d, rfl, toD_ok hr _ _ _ _ rv ed, c.1.1, c.1.2, lim_le c.2, same_ok hr s rfl⟩
        · cases e
      · cases e
    · exact s.no.elim
  · exact (hb rfl).elim
  · exact (hb' rfl).elim
  · exact s.no.elim
end
end Rf
set_option maxHeartbeats 4000000
namespace Rf
open PySem PySem.Spec PyProof.Rows L2
/-! the nodes: expressions -/
theorem _root_.L2.PE.of {X : Cx} {e : Expr} {t t' : TE} (h : PE X e t) (w : ∀ σ H Q, t' σ H Q → t σ H Q) : PE X e t' := ⟨fun pins s σ H Q I q => h.run pins s σ H Q I (w σ H Q q)⟩
theorem _root_.L2.PT.of {X : Cx} {e : Expr} {t t' : TT} (h : PT X e t) (w : ∀ σ H Q, t' σ H Q → t σ H Q) : PT X e t' := ⟨fun pins s σ H Q I q => h.run pins s σ H Q I (w σ H Q q)⟩
theorem _root_.L2.PW.of {X : Cx} {e : Expr} {t t' : TT} (h : PW X e t) (w : ∀ σ H Q, t' σ H Q → t σ H Q) : PW X e t' := ⟨fun wh pins s σ H Q I q => h.run wh pins s σ H Q I (w σ H Q q)⟩
theorem _root_.L2.PA.of {X : Cx} {e : List Expr} {t t' : TA} (h : PA X e t) (w : ∀ σ H Q, t' σ H Q → t σ H Q) : PA X e t' := ⟨fun p pins s σ H Q I q => h.run p pins s σ H Q I (w σ H Q q)⟩
abbrev Hbt := List (Str × Uv) → List IS → Env' → List Ob → R (Fl × List Ob)
section
variable (X : Cx) (g : Gs) (W : WX) (q : Iv g) (c : Cf) (hb : Hbt)
def NE (e : Expr) (i : IE) : Prop := ∀ n, PE X e (TEv g W q ((evN c hb n).E i))
def NT (e : Expr) (i : IE) : Prop := ∀ n, PT X e (TTv g W q ((evN c hb n).T i))
def NW (e : Expr) (i : IE) : Prop := ∀ n, PW X e (TTv g W q ((evN c hb n).T i))
def NA (es : List Expr) (i : List IE) : Prop := ∀ n, PA X es (TAv g W q ((evN c hb n).Es i))
end
section
variable {X : Cx} {g : Gs} {W : WX} {q : Iv g} {c : Cf} {hb : Hbt}
theorem NE.mk {e : Expr} {i : IE} (h : ∀ n, PE X e (TEv g W q (stepE c (evN c hb n) i))) : NE X g W q c hb e i
  | 0 => ⟨fun _ _ _ _ _ _ ⟨_, _, _, _, s⟩ => s.no.elim⟩
  | n + 1 => h n
theorem NT.mk {e : Expr} {i : IE} (h : ∀ n, PT X e (TTv g W q (stepT (evN c hb n) i))) : NT X g W q c hb e i
  | 0 => ⟨fun _ _ _ _ _ _ ⟨_, _, _, _, s⟩ => s.no.elim⟩
  | n + 1 => h n
theorem NW.mk {e : Expr} {i : IE} (h : ∀ n, PW X e (TTv g W q (stepT (evN c hb n) i))) : NW X g W q c hb e i
  | 0 => ⟨fun _ _ _ _ _ _ _ ⟨_, _, _, _, s⟩ => s.no.elim⟩
  | n + 1 => h n
theorem NA.mk {e : List Expr} {i : List IE} (h : ∀ n, PA X e (TAv g W q (stepEs (evN c hb n) i))) : NA X g W q c hb e i
  | 0 => ⟨fun _ _ _ _ _ _ _ ⟨_, _, _, _, s⟩ => s.no.elim⟩
  | n + 1 => h n
theorem NW.nt {e : Expr} {i : IE} (h : NW X g W q c hb e i) : NT X g W q c hb e i := fun n => (h n).pt
variable {a b d : Expr} {i j k : IE} {pos : Pos}
/-- two values, one after the other -/
theorem two {m : List Addr} {H : Hp} {h : List Ob} {s : Env'} {σ : L2.St} {Q : VK} {ra rb : Env' → List Ob → R (Uv × List Ob)} {f : Uv → Uv → List Ob → R (Uv × List Ob)} {K : V → V → Hp → Prop} (A : At g q m s h σ H)
    (S : Sat g W m H ((ra s h).bind fun p => (rb s p.2).bind fun r => f p.1 r.1 r.2) (VPost g Q))
    (k : ∀ u v u' v' m' H' h', HR g m' H' h' → VR g m' H' u v → VR g m' H' u' v' → Sat g W m' H' (f u u' h') (VPost g Q) → K v v' H') :
    TEv g W q ra σ H fun x H1 => TEv g W q rb σ H1 fun y H2 => K x y H2 :=
  ⟨m, s, h, A, S.bind.imp fun u h1 m1 H1 l1 hr1 S1 v rv => ⟨m1, s, h1, A.to l1 hr1, S1.bind.imp fun u2 h2 m2 H2 l2 hr2 S2 v2 rv2 => k u v u2 v2 m2 H2 h2 hr2 (VR.mono l2 _ _ rv) rv2 S2⟩⟩
theorem n_var {ix : Nat} {x : Str} (hN : X.N[ix]? = some x) (hv : Vis X.env.scope x) (hd : (x == ("__debug__" : Str)) = false) (hcd : (x == ("__classdict__" : Str)) = false) : NE X g W q c hb (.Name x pos) (.var ix) :=
  .mk fun n => (pe_var hN hv hd hcd).of fun σ H Q ⟨m, s, h, A, S⟩ => by
    simp only [stepE] at S
    split at S
    · rename_i us e
      obtain ⟨v, e1, rv⟩ := A.sr.2 _ _ e
      obtain ⟨j, u, e2, r2⟩ := VRa.get rv
      have S1 : Sat g W m H (match us[j]? with | some u => R.ok (u, h) | none => R.fail) (VPost g Q) := S j (List.getElem?_eq_some_iff.mp e2).1
      rw [e2] at S1
      exact ⟨v, e1, same_ok A.hr S1 r2⟩
    · rename_i u _ e
      obtain ⟨v, e1, rv⟩ := A.sr.2 _ _ e
      exact ⟨v, e1, same_ok A.hr S rv⟩
    · exact S.no.elim
theorem VRa.mk {m : List Addr} {H : Hp} : ∀ {us : List Uv} {u : Uv} {v : V}, u ∈ us → VR g m H u v → VRa g m H us v
  | [], _, _, h, _ => by cases h
  | w :: us, u, v, h, r => by
    rcases List.mem_cons.mp h with e | h
    · exact .inl (e ▸ r)
    · exact .inr (VRa.mk h r)
theorem lazy_ok {m : List Addr} {H : Hp} {r : R (Uv × List Ob)} {Q : VK} (S : Sat g W m H (lazyR r) (VPost g Q)) : Sat g W m H r (VPost g Q) := by
  unfold lazyR at S
  split at S
  · rename_i u h l e
    obtain ⟨ct, S⟩ := ite_satb S
    refine leaves_all e fun p hp m' H' l' hr' v rv => ?_
    have eh : p.2 = h := by
      rcases List.mem_cons.mp hp with q | q
      · rw [q]
      · exact eqH_ok _ _ (List.all_eq_true.mp ct p q)
    rw [eh] at hr'
    refine S m' H' l' hr' v (VRa.mk (u := p.1) ?_ rv)
    rcases List.mem_cons.mp hp with q | q
    · rw [q]; exact List.mem_cons_self
    · exact List.mem_cons_of_mem _ (List.mem_map.mpr ⟨p, q, rfl⟩)
  · exact S.no.elim
theorem mrg_ok {m : List Addr} {H : Hp} {r : R (Uv × List Ob)} {Q : VK} (S : Sat g W m H (mrgR r) (VPost g Q)) : Sat g W m H r (VPost g Q) := by
  unfold mrgR at S
  split at S
  · rename_i u h l e
    split at S
    · rename_i ct
      refine leaves_all e fun p hp m' H' l' hr' v rv => ?_
      have eh : p = (u, h) := by
        rcases List.mem_cons.mp hp with q | q
        · exact q
        · have z := List.all_eq_true.mp ct p q
          rw [Bool.and_eq_true] at z
          obtain ⟨p1, p2⟩ := p
          have z1 : p1 = u := eqU_ok _ _ z.1
          have z2 : p2 = h := eqH_ok _ _ z.2
          rw [z1, z2]
      subst eh
      exact S m' H' l' hr' v rv
    · exact S
  · exact S
theorem n_lazy {a : Expr} {i : IE} (ha : NE X g W q c hb a i) : NE X g W q c hb a (.lazy i) :=
  .mk fun n => (ha n).of fun σ H Q ⟨m, s, h, A, S⟩ => ⟨m, s, h, A, lazy_ok S⟩
theorem n_mrg {a : Expr} {i : IE} (ha : NE X g W q c hb a i) : NE X g W q c hb a (.mrg i) :=
  .mk fun n => (ha n).of fun σ H Q ⟨m, s, h, A, S⟩ => ⟨m, s, h, A, mrg_ok S⟩
theorem n_int {x : Int} {y : Nat} : NE X g W q c hb (.Constant (.int x) y pos) (.lit (.int x)) := .mk fun n => pe_int.of fun σ H Q ⟨m, s, h, A, S⟩ => same_ok A.hr S rfl
theorem n_bl {x : Bool} {y : Nat} : NE X g W q c hb (.Constant (.bool x) y pos) (.lit (.bl x)) := .mk fun n => pe_bl.of fun σ H Q ⟨m, s, h, A, S⟩ => same_ok A.hr S rfl
theorem n_non {y : Nat} : NE X g W q c hb (.Constant .none y pos) (.lit .non) := .mk fun n => pe_non.of fun σ H Q ⟨m, s, h, A, S⟩ => same_ok A.hr S rfl
theorem n_str {x : Str} {y : Nat} : NE X g W q c hb (.Constant (.str x) y pos) (.lit (.str x)) := .mk fun n => pe_str.of fun σ H Q ⟨m, s, h, A, S⟩ => same_ok A.hr S rfl
/-- a module's name: its value is the same in every heap -/
theorem n_glb {x : Str} {ix : Nat} {u : Uv} {v : V} {w : Value} (hc : c.gv[ix]? = some u) (hv : ∀ m H, VR g m H u v) (hg : Gl X x) (hm : X.mg x = some w) (r : RelV v w) (hd : (x == ("__debug__" : Str)) = false) : NE X g W q c hb (.Name x pos) (.glb ix) :=
  .mk fun n => (pe_glob hg hm r hd).of fun σ H Q ⟨m, s, h, A, S⟩ => by
    simp only [stepE, hc] at S
    exact same_ok A.hr S (hv _ _)
theorem n_bin {o : Operator} (hK : X.K = g.K) (ha : NE X g W q c hb a i) (hb' : NE X g W q c hb b j) : NE X g W q c hb (.BinOp a o b pos) (.bin o i j) :=
  .mk fun n => (pe_op (op_bin o) (ha n) (hb' n)).of fun σ H Q ⟨m, s, h, A, S⟩ => two A S fun u v u' v' m' H' h' hr r1 r2 S2 => by rw [hK]; exact bin_ok hr r1 r2 S2
theorem n_cmp {o : CmpOp} (hK : X.K = g.K) (hP : X.prog = g.P) (hw : X.w = g.w) (hu : X.A.units + 65 < cLine) (hm : behindInMarks o b = false) (ha : NE X g W q c hb a i) (hb' : NE X g W q c hb b j) : NE X g W q c hb (.Compare a [o] [b] pos) (.cmp o i j) :=
  .mk fun n => (pe_cmpR (op_cmp hu o) (ha n) (hb' n) hm).of fun σ H Q ⟨m, s, h, A, S⟩ => two A S fun u v u' v' m' H' h' hr r1 r2 S2 => by rw [hK, hP, hw]; exact cmp_ok hr r1 r2 S2
theorem n_not (ha : NE X g W q c hb a i) : NE X g W q c hb (.UnaryOp .Not a pos) (.not i) :=
  .mk fun n => (pe_not (ha n)).of fun σ H Q ⟨m, s, h, A, S⟩ => ⟨m, s, h, A, (Sat.bind S).imp fun u h1 m1 H1 l1 hr1 S1 v rv => by
    split at S1
    · rename_i x e
      rw [show u = .bl x from e] at rv
      cases rv
      exact ⟨x, rfl, same_ok hr1 S1 rfl⟩
    · exact S1.no.elim⟩
theorem n_neg (ha : NE X g W q c hb a i) : NE X g W q c hb (.UnaryOp .USub a pos) (.neg i) :=
  .mk fun n => (pe_un un_neg (ha n)).of fun σ H Q ⟨m, s, h, A, S⟩ => ⟨m, s, h, A, (Sat.bind S).imp fun u h1 m1 H1 l1 hr1 S1 v rv => by
    split at S1
    · rename_i x e
      rw [show u = .int x from e] at rv
      cases rv
      exact ⟨x, rfl, same_ok hr1 S1 rfl⟩
    · exact S1.no.elim⟩
theorem n_ite (ht : NT X g W q c hb d k) (ha : NE X g W q c hb a i) (hb' : NE X g W q c hb b j) : NE X g W q c hb (.IfExp d a b pos) (.ite k i j) :=
  .mk fun n => (pe_ifExp (ht n) (ha n) (hb' n)).of fun σ H Q ⟨m, s, h, A, S⟩ => ⟨m, s, h, A, (Sat.bind S).imp fun t h1 m1 H1 l1 hr1 S1 => by
    cases t with
    | true => exact ⟨m1, s, h1, A.to l1 hr1, S1⟩
    | false => exact ⟨m1, s, h1, A.to l1 hr1, S1⟩⟩
theorem n_one {o : BoolOp} (ha : NE X g W q c hb a i) : NE X g W q c hb (.BoolOp o [a] pos) (.bop o [i]) :=
  .mk fun n => (pe_one (ha n)).of fun σ H Q ⟨m, s, h, A, S⟩ => ⟨m, s, h, A, S⟩
theorem n_and {es : List Expr} {is : List IE} (ha : NE X g W q c hb a i) (hr : NE X g W q c hb (.BoolOp .And (b :: es) pos) (.bop .And (j :: is))) : NE X g W q c hb (.BoolOp .And (a :: b :: es) pos) (.bop .And (i :: j :: is)) :=
  .mk fun n => (pe_and (ha n) (hr n)).of fun σ H Q ⟨m, s, h, A, S⟩ => ⟨m, s, h, A, (Sat.bind S).imp fun u h1 m1 H1 l1 hr1 S1 v rv => by
    split at S1
    · rename_i e _
      rw [show u = .bl true from e] at rv
      cases rv
      exact ⟨true, rfl, m1, s, h1, A.to l1 hr1, S1⟩
    · rename_i e _
      rw [show u = .bl false from e] at rv
      cases rv
      exact ⟨false, rfl, same_ok hr1 S1 rfl⟩
    · rename_i e; cases e
    · rename_i e; cases e
    · exact S1.no.elim⟩
theorem n_or {es : List Expr} {is : List IE} (ha : NE X g W q c hb a i) (hr : NE X g W q c hb (.BoolOp .Or (b :: es) pos) (.bop .Or (j :: is))) : NE X g W q c hb (.BoolOp .Or (a :: b :: es) pos) (.bop .Or (i :: j :: is)) :=
  .mk fun n => (pe_or (ha n) (hr n)).of fun σ H Q ⟨m, s, h, A, S⟩ => ⟨m, s, h, A, (Sat.bind S).imp fun u h1 m1 H1 l1 hr1 S1 v rv => by
    split at S1
    · rename_i e; cases e
    · rename_i e; cases e
    · rename_i e _
      rw [show u = .bl true from e] at rv
      cases rv
      exact ⟨true, rfl, same_ok hr1 S1 rfl⟩
    · rename_i e _
      rw [show u = .bl false from e] at rv
      cases rv
      exact ⟨false, rfl, m1, s, h1, A.to l1 hr1, S1⟩
    · exact S1.no.elim⟩
theorem n_cmp2 {o o' : CmpOp} (hK : X.K = g.K) (hP : X.prog = g.P) (hw : X.w = g.w) (hu : X.A.units + 65 < cLine) (hm : lastMarks [o, o'] [b, d] = false) (ha : NE X g W q c hb a i) (hb' : NE X g W q c hb b j) (hd : NE X g W q c hb d k) : NE X g W q c hb (.Compare a [o, o'] [b, d] pos) (.cmp2 o o' i j k) :=
  .mk fun n => (pe_chain (op_cmp hu o) (op_cmp hu o') (ha n) (hb' n) (hd n) hm).of fun σ H Q ⟨m, s, h, A, S⟩ =>
    ⟨m, s, h, A, (Sat.bind S).imp fun u h1 m1 H1 l1 hr1 S1 v rv => ⟨m1, s, h1, A.to l1 hr1, (Sat.bind S1).imp fun u2 h2 m2 H2 l2 hr2 S2 v2 rv2 => by
      rw [hK, hP, hw]
      refine cmp_ok hr2 (VR.mono l2 _ _ rv) rv2 ((Sat.bind S2).imp fun u3 h3 m3 H3 l3 hr3 S3 v3 rv3 => ?_)
      split at S3
      · rename_i e
        rw [show u3 = .bl true from e] at rv3
        cases rv3
        refine ⟨true, rfl, m3, s, h3, ((A.to l1 hr1).to l2 hr2).to l3 hr3, (Sat.bind S3).imp fun u4 h4 m4 H4 l4 hr4 S4 v4 rv4 => ?_⟩
        exact cmp_ok hr4 (VR.mono (l3.trans l4) _ _ rv2) rv4 S4
      · rename_i e
        rw [show u3 = .bl false from e] at rv3
        cases rv3
        exact ⟨false, rfl, same_ok hr3 S3 rfl⟩
      · exact S3.no.elim⟩⟩
theorem n_tup {es : List Expr} {is : List IE} {y : Nat} (ha : NA X g W q c hb es is) : NE X g W q c hb (.Tuple es y pos) (.tup is) :=
  .mk fun n => (pe_tup (ha n)).of fun σ H Q ⟨m, s, h, A, S⟩ => ⟨m, s, h, A, (Sat.bind S).imp fun us h1 m1 H1 l1 hr1 S1 vs rv => by
    obtain ⟨c, S1⟩ := ite_sat S1
    exact ⟨by rw [← rv.length]; exact lim_le c, fun p hp => tup_ok hr1 S1 hp rv⟩⟩
theorem n_lst {es : List Expr} {is : List IE} (ha : NA X g W q c hb es is) : NE X g W q c hb (.List es pos) (.lst is) :=
  .mk fun n => (pe_lst (ha n)).of fun σ H Q ⟨m, s, h, A, S⟩ => ⟨m, s, h, A, (Sat.bind S).imp fun us h1 m1 H1 l1 hr1 S1 vs rv => by
    obtain ⟨c, S1⟩ := ite_sat S1
    exact ⟨by rw [← rv.length]; exact lim_le c, fun p hp => alloc_ok hr1 S1 hp ⟨_, rfl, rv⟩⟩⟩
def noSlice : Expr → Bool
  | .Slice .. => false
  | _ => true
theorem plainIx_of {b : Expr} (h : noSlice b = true) : PlainIx b := by
  intro o i
  cases b <;> first | rfl | cases h
theorem n_sub (hK : X.K = g.K) (hP : X.prog = g.P) (hw : X.w = g.w) (hu : X.A.units + 9 < cLine) (hs : noSlice b = true) (ha : NE X g W q c hb a i) (hb' : NE X g W q c hb b j) : NE X g W q c hb (.Subscript a b pos) (.sub i j) :=
  .mk fun n => (pe_ix (ix_sub hu) (ha n) (hb' n) (plainIx_of hs)).of fun σ H Q ⟨m, s, h, A, S⟩ => two A S fun u v u' v' m' H' h' hr r1 r2 S2 => by rw [hK, hP, hw]; exact sub_ok hr r1 r2 S2
/-! slices -/
def NO (X : Cx) (g : Gs) (W : WX) (q : Iv g) (c : Cf) (hb : Hbt) (e : Option Expr) (i : Option IE) : Prop := match e, i with
  | none, none => True
  | some e, some i => NE X g W q c hb e i
  | _, _ => False
def TOv (g : Gs) (W : WX) (q : Iv g) (r : Env' → List Ob → R (Option Int × List Ob)) : TO := fun z H Q => ∃ m s h, At g q m s h z H ∧ Sat g W m H (r s h) fun b _ _ H' => Q b H'
theorem no_po {e : Option Expr} {i : Option IE} (h : NO X g W q c hb e i) (n : Nat) : PO X e (TOv g W q (optE (evN c hb n) i)) := by
  cases e with
  | none =>
    cases i with
    | none => exact ⟨fun pins s σ H Q I ⟨m, z, k, A, S⟩ => po_none.run pins s σ H Q I (S.ok0 A.hr)⟩
    | some i => exact h.elim
  | some e =>
    cases i with
    | none => exact h.elim
    | some i =>
      refine ⟨fun pins s σ H Q I ⟨m, z, k, A, S⟩ => (po_some (h n)).run pins s σ H Q I ⟨m, z, k, A, (Sat.bind S).imp fun u h1 m1 H1 l1 hr1 S1 v rv => ?_⟩⟩
      split at S1
      · rename_i x e
        rw [show u = .int x from e] at rv
        cases rv
        exact ⟨x, rfl, S1.ok0 hr1⟩
      · exact S1.no.elim
theorem n_slc {lo hi : Option Expr} {ilo ihi : Option IE} {p2 : Pos} (hK : X.K = g.K) (ha : NE X g W q c hb a i) (hl : NO X g W q c hb lo ilo) (hh : NO X g W q c hb hi ihi) : NE X g W q c hb (.Subscript a (.Slice lo hi none p2) pos) (.slc i ilo ihi) :=
  .mk fun n => (pe_slice sl_slc (ha n) (no_po hl n) (no_po hh n)).of fun σ H Q ⟨m, s, h, A, S⟩ =>
    ⟨m, s, h, A, (Sat.bind S).imp fun u h1 m1 H1 l1 hr1 S1 v rv => ⟨m1, s, h1, A.to l1 hr1, (Sat.bind S1).imp fun u2 h2 m2 H2 l2 hr2 S2 => ⟨m2, s, h2, (A.to l1 hr1).to l2 hr2, (Sat.bind S2).imp fun u3 h3 m3 H3 l3 hr3 S3 => by
      rw [hK]; exact slc_ok hr3 (VR.mono (l2.trans l3) _ _ rv) S3⟩⟩⟩
/-! arguments -/
def plainE : Expr → Bool
  | .Starred .. => false
  | _ => true
theorem star_of {e : Expr} (h : plainE e = true) (es : List Expr) (env : Env) : starEach (e :: es) env = (false, eval e env) :: starEach es env := by
  cases e <;> first | rfl | cases h
theorem na_nil : NA X g W q c hb [] [] := .mk fun n => pa_nil.of fun σ H Q ⟨m, s, h, A, S⟩ => S.ok0 A.hr [] .nil
def plainI : IE → Bool
  | .star _ => false
  | _ => true
theorem stepEs_cons {v : Ev} {i : IE} (h : plainI i = true) (is : List IE) (s : Env') (k : List Ob) : stepEs v (i :: is) s k = (v.E i s k).bind fun p => (v.Es is s p.2).bind fun q => .ok (p.1 :: q.1, q.2) := by
  cases i <;> first | rfl | cases h
theorem na_cons {es : List Expr} {is : List IE} (hp : plainE a = true) (hi : plainI i = true) (ha : NE X g W q c hb a i) (hs : NA X g W q c hb es is) : NA X g W q c hb (a :: es) (i :: is) :=
  .mk fun n => (pa_cons (ha n) (hs n) (star_of hp es X.env)).of fun σ H Q ⟨m, s, h, A, S⟩ => by
    rw [stepEs_cons hi] at S
    exact ⟨m, s, h, A, S.bind.imp fun u h1 m1 H1 l1 hr1 S1 v rv => ⟨m1, s, h1, A.to l1 hr1, S1.bind.imp fun us h2 m2 H2 l2 hr2 S2 vs rvs => S2.ok0 hr2 _ (.cons (VR.mono l2 _ _ rv) rvs)⟩⟩
theorem na_star {es : List Expr} {is : List IE} {p : Pos} (hK : X.K = g.K) (hc : X.calm = true) (ha : NE X g W q c hb a i) (hs : NA X g W q c hb es is) : NA X g W q c hb (.Starred a p :: es) (.star i :: is) :=
  .mk fun n => (pa_starD hc (ha n) (hs n) rfl).of fun σ H Q ⟨m, s, h, A, S⟩ =>
    ⟨m, s, h, A, (Sat.bind S).imp fun u h1 m1 H1 l1 hr1 S1 v rv => by
      split at S1
      · rename_i us e
        obtain ⟨p, ys, rfl, hp, hx⟩ := itemsD_ok hr1 rv e
        refine ⟨p, ys, rfl, hp.imp (fun hp => by rw [hK]; exact hp.symm) id, m1, s, h1, A.to l1 hr1, S1.bind.imp fun us2 h2 m2 H2 l2 hr2 S2 vs rvs => S2.ok0 hr2 _ (.append (VRs.mono l2 _ _ hx) rvs)⟩
      · exact S1.no.elim⟩
end
end Rf
set_option maxHeartbeats 4000000
namespace Rf
open PySem PySem.Spec PyProof.Rows L2
section
variable {X : Cx} {g : Gs} {W : WX} {q : Iv g} {c : Cf} {hb : Hbt} {a b d : Expr} {i j k : IE} {pos : Pos}
/-! ### tests -/
theorem nt_cmp {o : CmpOp} (hK : X.K = g.K) (hP : X.prog = g.P) (hw : X.w = g.w) (hu : X.A.units + 65 < cLine) (hm : behindInMarks o b = false) (ha : NE X g W q c hb a i) (hb' : NE X g W q c hb b j) : NT X g W q c hb (.Compare a [o] [b] pos) (.cmp o i j) :=
  .mk fun n => by
    cases n with
    | zero => exact ⟨fun _ _ _ _ _ _ ⟨_, _, _, _, s⟩ => (Sat.bind s).no.elim⟩
    | succ n =>
      refine (pt_cmpR (op_cmp hu o) (ha n) (hb' n) hm).of fun σ H Q ⟨m, s, h, A, S⟩ => two (Q := fun x H' => ∃ k, x = .bl k ∧ Q k H') A ((Sat.bind S).imp fun u h1 m1 H1 l1 hr1 S1 v rv => ?_) fun u v u' v' m' H' h' hr r1 r2 S2 => by rw [hK, hP, hw]; exact cmp_ok hr r1 r2 S2
      split at S1
      · rename_i x e
        rw [show u = .bl x from e] at rv
        cases rv
        exact ⟨x, rfl, S1.ok0 hr1⟩
      · exact S1.no.elim
theorem nt_cmp2 {o o' : CmpOp} (hK : X.K = g.K) (hP : X.prog = g.P) (hw : X.w = g.w) (hu : X.A.units + 65 < cLine) (hm : lastMarks [o, o'] [b, d] = false) (ha : NE X g W q c hb a i) (hb' : NE X g W q c hb b j) (hd : NE X g W q c hb d k) : NT X g W q c hb (.Compare a [o, o'] [b, d] pos) (.cmp2 o o' i j k) :=
  .mk fun n => by
    cases n with
    | zero => exact ⟨fun _ _ _ _ _ _ ⟨_, _, _, _, s⟩ => (Sat.bind s).no.elim⟩
    | succ n =>
      refine (pt_chain (op_cmp hu o) (op_cmp hu o') (ha n) (hb' n) (hd n) hm).of fun σ H Q ⟨m, s, h, A, S⟩ => ?_
      have S' : Sat g W m H (stepE c (evN c hb n) (.cmp2 o o' i j k) s h) (VPost g fun x H' => ∃ k, x = .bl k ∧ Q k H') := (Sat.bind S).imp fun u h1 m1 H1 l1 hr1 S1 v rv => by
        split at S1
        · rename_i x e
          rw [show u = .bl x from e] at rv
          cases rv
          exact ⟨x, rfl, S1.ok0 hr1⟩
        · exact S1.no.elim
      exact ⟨m, s, h, A, (Sat.bind S').imp fun u h1 m1 H1 l1 hr1 S1 v rv => ⟨m1, s, h1, A.to l1 hr1, (Sat.bind S1).imp fun u2 h2 m2 H2 l2 hr2 S2 v2 rv2 => by
        rw [hK, hP, hw]
        refine cmp_ok hr2 (VR.mono l2 _ _ rv) rv2 ((Sat.bind S2).imp fun u3 h3 m3 H3 l3 hr3 S3 v3 rv3 => ?_)
        split at S3
        · rename_i e
          rw [show u3 = .bl true from e] at rv3
          cases rv3
          refine ⟨true, rfl, m3, s, h3, ((A.to l1 hr1).to l2 hr2).to l3 hr3, (Sat.bind S3).imp fun u4 h4 m4 H4 l4 hr4 S4 v4 rv4 => ?_⟩
          exact cmp_ok hr4 (VR.mono (l3.trans l4) _ _ rv2) rv4 S4
        · rename_i e
          rw [show u3 = .bl false from e] at rv3
          cases rv3
          exact ⟨false, rfl, same_ok hr3 S3 rfl⟩
        · exact S3.no.elim⟩⟩
theorem nt_not (ha : NT X g W q c hb a i) : NT X g W q c hb (.UnaryOp .Not a pos) (.not i) :=
  .mk fun n => (pt_not (ha n)).of fun σ H Q ⟨m, s, h, A, S⟩ => ⟨m, s, h, A, (Sat.bind S).imp fun u h1 m1 H1 l1 hr1 S1 => S1.ok0 hr1⟩
theorem nw_and1 (ha : NT X g W q c hb a i) : NW X g W q c hb (.BoolOp .And [a] pos) (.bop .And [i]) :=
  .mk fun n => (pw_and1 (ha n)).of fun σ H Q ⟨m, s, h, A, S⟩ => ⟨m, s, h, A, S⟩
theorem nw_or1 (ha : NT X g W q c hb a i) : NW X g W q c hb (.BoolOp .Or [a] pos) (.bop .Or [i]) :=
  .mk fun n => (pw_or1 (ha n)).of fun σ H Q ⟨m, s, h, A, S⟩ => ⟨m, s, h, A, S⟩
theorem nw_and {es : List Expr} {is : List IE} (ha : NT X g W q c hb a i) (hr : NW X g W q c hb (.BoolOp .And (b :: es) pos) (.bop .And (j :: is))) : NW X g W q c hb (.BoolOp .And (a :: b :: es) pos) (.bop .And (i :: j :: is)) :=
  .mk fun n => (pw_and (ha n) (hr n)).of fun σ H Q ⟨m, s, h, A, S⟩ => ⟨m, s, h, A, (Sat.bind S).imp fun t h1 m1 H1 l1 hr1 S1 => by
    cases t with
    | true => exact ⟨m1, s, h1, A.to l1 hr1, S1⟩
    | false => exact S1.ok0 hr1⟩
theorem nw_or {es : List Expr} {is : List IE} (ha : NT X g W q c hb a i) (hr : NW X g W q c hb (.BoolOp .Or (b :: es) pos) (.bop .Or (j :: is))) : NW X g W q c hb (.BoolOp .Or (a :: b :: es) pos) (.bop .Or (i :: j :: is)) :=
  .mk fun n => (pw_or (ha n) (hr n)).of fun σ H Q ⟨m, s, h, A, S⟩ => ⟨m, s, h, A, (Sat.bind S).imp fun t h1 m1 H1 l1 hr1 S1 => by
    cases t with
    | true => exact S1.ok0 hr1
    | false => exact ⟨m1, s, h1, A.to l1 hr1, S1⟩⟩
def plainT : Expr → Bool
  | .UnaryOp .Not _ _ => false
  | .BoolOp .. => false
  | .IfExp .. => false
  | .Compare .. => false
  | _ => true
def plainTI : IE → Bool
  | .not _ => false | .bop .. => false | .ite .. => false | .cmp .. => false | .cmp2 .. => false
  | _ => true
theorem isTrue_of {a : Expr} (h : plainT a = true) (env : Env) : ∀ whole, isTrue a env whole = (do let v ← whole; standAt a.pos; holding [v] (truthy v)) := by
  intro whole
  cases a with
  | UnaryOp o _ _ => cases o <;> first | rfl | cases h
  | _ => first | rfl | cases h
theorem stepT_of {i : IE} (h : plainTI i = true) (v : Ev) (s : Env') (k : List Ob) : stepT v i s k = (v.E i s k).bind fun p => match truU p.1 p.2 with
    | some b => .ok (b, p.2)
    | none => .fail := by
  cases i <;> first | rfl | cases h
theorem nt_val (hK : X.K = g.K) (hp : plainT a = true) (hi : plainTI i = true) (ha : NE X g W q c hb a i) : NT X g W q c hb a i :=
  .mk fun n => (pt_truth (ha n) (isTrue_of hp X.env)).of fun σ H Q ⟨m, s, h, A, S⟩ => by
    rw [stepT_of hi] at S
    refine ⟨m, s, h, A, (Sat.bind S).imp fun u h1 m1 H1 l1 hr1 S1 v rv => ?_⟩
    split at S1
    · rename_i t e
      exact ⟨t, by rw [hK]; exact tru_ok' hr1 rv e, S1.ok0 hr1⟩
    · exact S1.no.elim
/-! ### builtins by name -/
theorem any_stars {pos : Pos} {env : Env} : ∀ {es : List Expr}, es.all plainE = true → (backTo pos (starEach es env)).any (·.1) = false
  | [], _ => rfl
  | e :: es, h => by
    rw [List.all_cons, Bool.and_eq_true] at h
    rw [star_of h.1]
    have ih := any_stars (pos := pos) (env := env) h.2
    show (false || (backTo pos (starEach es env)).any (·.1)) = false
    rw [ih] <;> rfl
def biTy : Bi → Bool
  | .tuple => true | .list => true | .int => true | .dict => true | _ => false
theorem bi_boot : ∀ b : Bi, b ≠ .lenset → b ≠ .tuprng → b ≠ .dvals → bootBuiltins (biN b) = some (biV b) ∧ biN b ≠ "__name__" ∧ (biN b == ("__debug__" : Str)) = false
  | .lenset, h, _, _ => (h rfl).elim
  | .tuprng, _, h, _ => (h rfl).elim
  | .dvals, _, _, h => (h rfl).elim
  | .len, _, _, _ => ⟨by decide +kernel, by decide +kernel, by decide +kernel⟩
  | .tuple, _, _, _ => ⟨by decide +kernel, by decide +kernel, by decide +kernel⟩
  | .list, _, _, _ => ⟨by decide +kernel, by decide +kernel, by decide +kernel⟩
  | .sorted, _, _, _ => ⟨by decide +kernel, by decide +kernel, by decide +kernel⟩
  | .all, _, _, _ => ⟨by decide +kernel, by decide +kernel, by decide +kernel⟩
  | .any, _, _, _ => ⟨by decide +kernel, by decide +kernel, by decide +kernel⟩
  | .min2, _, _, _ => ⟨by decide +kernel, by decide +kernel, by decide +kernel⟩
  | .max2, _, _, _ => ⟨by decide +kernel, by decide +kernel, by decide +kernel⟩
  | .abs, _, _, _ => ⟨by decide +kernel, by decide +kernel, by decide +kernel⟩
  | .int, _, _, _ => ⟨by decide +kernel, by decide +kernel, by decide +kernel⟩
  | .repr, _, _, _ => ⟨by decide +kernel, by decide +kernel, by decide +kernel⟩
  | .minD, _, _, _ => ⟨by decide +kernel, by decide +kernel, by decide +kernel⟩
  | .dict, _, _, _ => ⟨by decide +kernel, by decide +kernel, by decide +kernel⟩
theorem n_bi {bi : Bi} {x : Str} {es : List Expr} {is : List IE} {p : Pos} (hK : X.K = g.K) (hP : X.prog = g.P) (hw : X.w = g.w) (hA : X.A.guards = some []) (hu : X.A.units + 66 < cLine) (hc : biCalm bi = true → X.calm = true) (h1 : bi ≠ .lenset) (h2 : bi ≠ .tuprng) (h3 : bi ≠ .dvals) (hx : x = biN bi)
    (hg : Gl X x) (hm : X.mg x = none) (hp : (a :: es).all plainE = true) (ha : NA X g W q c hb (a :: es) is) : NE X g W q c hb (.Call (.Name x p) (a :: es) [] pos) (.bi bi is) :=
  .mk fun n => by
    subst hx
    rw [List.all_cons, Bool.and_eq_true] at hp
    obtain ⟨e1, e2, e3⟩ := bi_boot bi h1 h2 h3
    have cr := cr_bi hA hu bi hc
    have w : ∀ σ H Q, TEv g W q (stepE c (evN c hb n) (.bi bi is)) σ H Q → tCB (rBi X.prog X.w X.K bi) (TAv g W q ((evN c hb n).Es is)) σ H Q := fun σ H Q ⟨m, s, h, A, S⟩ => ⟨m, s, h, A, (Sat.bind S).imp fun us h1' m1 H1 l1 hr1 S1 vs rv => by rw [hK, hP, hw]; exact bi_ok h1 h2 h3 hr1 rv S1⟩
    cases bi with
    | tuple => exact (pe_callTy cr hg hm e1 (ha n) e2 e3 (star_of hp.1 _ _) (any_stars hp.2)).of w
    | list => exact (pe_callTy cr hg hm e1 (ha n) e2 e3 (star_of hp.1 _ _) (any_stars hp.2)).of w
    | int => exact (pe_callTy cr hg hm e1 (ha n) e2 e3 (star_of hp.1 _ _) (any_stars hp.2)).of w
    | dict => exact (pe_callTy cr hg hm e1 (ha n) e2 e3 (star_of hp.1 _ _) (any_stars hp.2)).of w
    | lenset => exact (h1 rfl).elim
    | dvals => exact (h3 rfl).elim
    | minD => exact (pe_callB cr hg hm e1 (ha n) e2 e3 (star_of hp.1 _ _) (any_stars hp.2)).of w
    | tuprng => exact (h2 rfl).elim
    | len => exact (pe_callB cr hg hm e1 (ha n) e2 e3 (star_of hp.1 _ _) (any_stars hp.2)).of w
    | sorted => exact (pe_callB cr hg hm e1 (ha n) e2 e3 (star_of hp.1 _ _) (any_stars hp.2)).of w
    | all => exact (pe_callB cr hg hm e1 (ha n) e2 e3 (star_of hp.1 _ _) (any_stars hp.2)).of w
    | any => exact (pe_callB cr hg hm e1 (ha n) e2 e3 (star_of hp.1 _ _) (any_stars hp.2)).of w
    | min2 => exact (pe_callB cr hg hm e1 (ha n) e2 e3 (star_of hp.1 _ _) (any_stars hp.2)).of w
    | max2 => exact (pe_callB cr hg hm e1 (ha n) e2 e3 (star_of hp.1 _ _) (any_stars hp.2)).of w
    | abs => exact (pe_callB cr hg hm e1 (ha n) e2 e3 (star_of hp.1 _ _) (any_stars hp.2)).of w
    | repr => exact (pe_callB cr hg hm e1 (ha n) e2 e3 (star_of hp.1 _ _) (any_stars hp.2)).of w
/-! ### isinstance -/
theorem kitT_ok {ty t : Ty} {r : Bool} (h : kitT ty t = some r) : kitB ty.nm t.nm = some r := by
  cases t <;> cases ty <;> first | (cases h; done) | (cases h; decide +kernel)
theorem ty_sq {K : PySem.W.Frag} {H : Hp} {p : Addr} {ys : List V} (h : SqT K H p ys) : TyX K H (.ref p) (.type "tuple") := by
  rcases h with (h | ⟨u, h⟩) | ⟨o, _, _, h, e, _⟩
  · exact .base (.tup h)
  · exact .fTuple h
  · exact .kTuple h e
theorem tyU_ok {m : List Addr} {H : Hp} {h : List Ob} {u : Uv} {v : V} {ty : Ty} (hr : HR g m H h) (r : VR g m H u v) (e : tyU u h = some ty) : TyX g.K H v (.type ty.nm) := by
  unfold tyU at e
  split at e
  · cases e; cases r; exact .base .non
  · cases e; cases r; exact .base (.bl _)
  · cases e; cases r; exact .base (.int _)
  · cases e; cases r; exact .base (.str _)
  · cases e; obtain ⟨p, ys, rfl, hp, hx⟩ := r; exact ty_sq hp
  · split at e
    · rename_i xs e0
      cases e
      obtain ⟨p, ys, rfl, _, k1, hx⟩ := hr.getL r e0
      exact .base (.lst k1)
    · rename_i xs e0
      cases e
      obtain ⟨p, ys, rfl, _, k1, hx⟩ := hr.getD r e0
      exact .base (.dK k1)
    · cases e
  · cases e
theorem n_isi {x y : Str} {t : Ty} {p p2 : Pos} (hK : X.K = g.K) (hx : x = "isinstance") (hg : Gl X x) (hm : X.mg x = none) (hp : plainE a = true) (ht : bootBuiltins y = some (.type t.nm)) (hg2 : Gl X y) (hm2 : X.mg y = none) (hn : y ≠ "__name__") (hd : (y == ("__debug__" : Str)) = false)
    (ha : NE X g W q c hb a i) : NE X g W q c hb (.Call (.Name x p) [a, .Name y p2] [] pos) (.isi i t) :=
  .mk fun n => by
    subst hx
    refine (pe_callB call_isi hg hm (by decide +kernel) (pa_cons (ha n) (pa_cons (pe_bltn (v := .ty t.nm) hg2 hm2 ht rfl hn hd) pa_nil rfl) (star_of hp _ _)) (by decide +kernel) (by decide +kernel) (star_of hp _ _) rfl).of fun σ H Q ⟨m, s, h, A, S⟩ =>
      ⟨m, s, h, A, (Sat.bind S).imp fun u h1 m1 H1 l1 hr1 S1 v rv => ?_⟩
    split at S1
    · rename_i ty e
      split at S1
      · rename_i r e2
        exact ⟨v, _, _, _, r, rfl, .ty t.nm, by rw [hK]; exact tyU_ok hr1 rv e, kit_ty (kitT_ok e2), same_ok hr1 S1 rfl⟩
      · exact S1.no.elim
    · exact S1.no.elim
/-! ### {} -/
theorem n_dnil : NE X g W q c hb (.Dict [] [] pos) .dnil :=
  .mk fun n => pe_dnewK.of fun σ H Q ⟨m, s, h, A, S⟩ => fun p hp => alloc_ok A.hr S hp ⟨[], rfl, rfl⟩
end
end Rf
set_option maxHeartbeats 4000000
namespace Rf
open PySem PySem.Spec PyProof.Rows L2 RfS
section
variable {X : Cx} {g : Gs} {W : WX} {q : Iv g} {c : Cf} {hb : Hbt} {a b d : Expr} {i j k : IE} {pos : Pos}
/-! ### methods -/
def rGet1 : V → List V → Hp → VK → Prop := fun x vs H Q => ∃ p y o, x = .ref p ∧ vs = [y] ∧ DGet H p y o ∧ Q (o.getD .non) H
theorem mt_get1 (hu : X.A.units + 1 < cLine) : MtM X "dict.get" rGet1 := by
  intro pins s σ H x vs v us Q I rx rv h
  obtain ⟨p, y, o, rfl, rfl, dg, qq⟩ := h
  cases rx
  obtain ⟨u, rfl, ru⟩ := rv.one
  exact d_get1 hu I dg ru fun w' s3 I3 rw' => ⟨_, H, I3, rw', qq⟩
def meT : Me → String
  | .append => "list" | .extend => "list" | .pop => "list" | .update => "dict" | .get1 => "dict" | .index => "list" | .pop1 => "dict"
def meN : Me → Str
  | .append => "append" | .extend => "extend" | .pop => "pop" | .update => "update" | .get1 => "get" | .index => "index" | .pop1 => "pop"
/-- a receiver's type, dicts with nested keys too -/
def tyW (P : Program) (w : World) (K : PySem.W.Frag) (T : String) (x : V) (H : Hp) : Prop := tyV K T x H ∨ (T = "dict" ∧ ∃ a xs, x = .ref a ∧ NdAt P w K H a xs)
theorem tyW_is {pins : List (Addr × Obj)} {σ : L2.St} {H : Hp} {s : Shared} {T : String} {x : V} {v : Value} (I : Inv X pins σ H s) (r : RelV x v) (ty : tyW X.prog X.w X.K T x H) :
    s.TypeIs v T ∧ ∀ a, v = .ref a → ∃ ob, s.heap.get? a = some ob ∧ ob.dict = none := by
  rcases ty with ty | ⟨rfl, a, xs, rfl, hn⟩
  · exact tyV_is I r ty
  · cases r
    obtain ⟨_, _, ys, _, d⟩ := nd_rd I hn
    refine ⟨d.typeIs, fun a' e => ?_⟩
    cases e
    obtain ⟨o, _, _, e1, e2, _⟩ := d
    exact ⟨o, e1, e2.2.1⟩
def tBMW (P : Program) (w : World) (K : PySem.W.Frag) (T : String) (r : V → List V → Hp → VK → Prop) (to : TE) (t : TA) : TE := fun σ H Q => to σ H fun x H1 => tyW P w K T x H1 ∧ t σ H1 fun xs H2 => r x xs H2 Q
theorem pe_bmW {o e : Expr} {es : List Expr} {to : TE} {t : TA} {name : Str} {apos cpos : Pos} {T id : String} {r : V → List V → Hp → VK → Prop} (pa : PlainAttrs T) (slot : Slot T name id) (hty : typeOf (.builtin id) = pure (.type "method_descriptor")) (hm : MtR X id r) (ho : PE X o to) (ha : PA X (e :: es) t)
    (hbase : attributeBase o name X.env (eval o X.env) = eval o X.env)
    (hfew : ((backTo cpos (starEach (e :: es) X.env)).all (fun x => !x.1) && (backToKw cpos (keywordEach [] X.env)).all (fun x => x.1.isSome)
      && decide ((e :: es).length + ([] : List Keyword).length + (if ([] : List Keyword).isEmpty then 0 else 1) < 30)) = true)
    (hline : (apos.endLine == cpos.line) = true) (hs : starEach (e :: es) X.env = (false, eval e X.env) :: starEach es X.env) (hplain : (backTo cpos (starEach es X.env)).any (·.1) = false) :
    PE X (.Call (.Attribute o name apos) (e :: es) [] cpos) (tBMW X.prog X.w X.K T r to t) := by
  refine ⟨fun pins s σ H Q I h => ?_⟩
  refine wpAny_Call_method_late hbase hfew hline rfl (thn (ho.run pins s σ H _ I h) fun v s1 ⟨x, H1, I1, r1, ty, q1⟩ => ?_)
  obtain ⟨h1, h2⟩ := tyW_is I1 r1 ty
  refine ⟨T, id, pa, slot, hty, h1, h2, ?_⟩
  have hA := ha.run cpos pins s1 σ H1 _ I1 q1
  rw [hs] at hA ⊢
  refine Calls.callWith_builtin (by show (false || (backTo cpos (starEach es X.env)).any (·.1)) = false; rw [hplain] <;> rfl) (Calls.evalArgs_plain ?_)
  exact thn hA fun us s2 ⟨vs, H2, I2, r2, q2⟩ => hm pins s2 σ H2 x vs v us Q I2 r1 r2 q2
def rMe (P : Program) (w : World) (K : PySem.W.Frag) : Me → V → List V → Hp → VK → Prop
  | .append => rAppend
  | .extend => fun x vs H Q => rExtend x vs H Q ∨ rExtT K x vs H Q
  | .pop => rPop
  | .update => rUpd
  | .get1 => fun x vs H Q => rGet1 x vs H Q ∨ rGetN P w K x vs H Q
  | .index => rIndex K
  | .pop1 => rPopN P w K
theorem ints_flat : ∀ l : List Int, (l.map V.int).all flatV = true
  | [] => rfl
  | _ :: l => by rw [List.map_cons, List.all_cons, ints_flat l] <;> rfl
theorem eqV_int (i j : Int) : eqV (.int i) (.int j) = decide (i = j) := by
  unfold eqV
  first
    | rfl
    | (by_cases h : i = j <;> simp [h])
theorem met_ok {m : List Addr} {H : Hp} {h : List Ob} {Q : VK} {me : Me} {o : Uv} {v : V} {us : List Uv} {vs : List V} (hr : HR g m H h) (ro : VR g m H o v) (r : VRs g m H us vs) (s : Sat g W m H (evMet me o us h) (VPost g Q)) : rMe g.P g.w g.K me v vs H Q := by
  unfold evMet at s
  split at s
  · obtain ⟨w, rfl, rw'⟩ := r.one
    split at s
    · rename_i xs e0
      obtain ⟨p, ys, rfl, hn, k1, hx⟩ := hr.getL ro e0
      obtain ⟨c, s⟩ := ite_sat s
      exact ⟨p, ys, w, rfl, rfl, k1, by rw [← hx.length]; exact lim_lt c, set_okV hr s hn e0 ⟨_, rfl, hx.append (.cons rw' .nil)⟩ rfl⟩
    · exact s.no.elim
  · obtain ⟨w, rfl, rw'⟩ := r.one
    split at s
    · rename_i xs zs e0 e1
      obtain ⟨p, ys, rfl, hn, k1, hx⟩ := hr.getL ro e0
      obtain ⟨c, s⟩ := ite_sat s
      unfold itemsU at e1
      split at e1
      · cases e1
        obtain ⟨p2, ys2, rfl, hp2, hx2⟩ := rw'
        exact .inr ⟨p, p2, ys, ys2, rfl, rfl, k1, hp2, by rw [← hx.length, ← hx2.length]; exact lim_le c, set_okV hr s hn e0 ⟨_, rfl, hx.append hx2⟩ rfl⟩
      · split at e1
        · rename_i xs' e2
          cases e1
          obtain ⟨p2, ys2, rfl, hn2, k2, hx2⟩ := hr.getL rw' e2
          exact .inl ⟨p, p2, ys, ys2, rfl, rfl, k1, k2, by rw [← hx.length, ← hx2.length]; exact lim_le c, set_okV hr s hn e0 ⟨_, rfl, hx.append hx2⟩ rfl⟩
        · cases e1
      · cases e1
    · exact s.no.elim
  · split at s
    · rename_i xs e0
      obtain ⟨p, ys, rfl, hn, k1, hx⟩ := hr.getL ro e0
      split at s
      · rename_i u e1
        obtain ⟨w, e2, rw'⟩ := hx.get e1
        rw [hx.length] at e2
        rw [show vs = [] from r]
        exact ⟨p, ys, w, rfl, rfl, k1, e2, set_okV hr s hn e0 ⟨_, rfl, hx.dropLast⟩ rw'⟩
      · exact s.no.elim
    · exact s.no.elim
  · obtain ⟨w, rfl, rw'⟩ := r.one
    split at s
    · rename_i n k xs ys e0 e1
      obtain ⟨p, l, rfl, hn, k1, hx⟩ := hr.getD ro e0
      obtain ⟨p2, l2, rfl, hn2, k2, hx2⟩ := hr.getD rw' e1
      obtain ⟨c0, s⟩ := ite_satn s
      obtain ⟨c, s⟩ := ite_sat s
      refine ⟨p, p2, l, l2, rfl, rfl, fun e => c0 (hr.inj hn (e ▸ hn2)), k1, k2, by rw [← hx.length, ← hx2.length]; exact lim_le (Nat.le_of_lt c), set_okV hr s hn e0 ⟨_, rfl, ?_⟩ rfl⟩
      have go : ∀ (ys : List (Key × Uv)) (l2 : List (Key × V)) (xs : List (Key × Uv)) (l : List (Key × V)), KRs g m H ys l2 → KRs g m H xs l → KRs g m H (ys.foldl (fun acc p => gPut acc p.1 p.2) xs) (l2.foldl (fun acc p => putK acc p.1 p.2) l) := by
        intro ys
        induction ys with
        | nil => intro l2 xs l r1 r2; rw [show l2 = [] from r1]; exact r2
        | cons y ys ih =>
          intro l2 xs l r1 r2
          obtain ⟨k, y⟩ := y
          obtain ⟨z, t, rfl, b1, b2⟩ := r1
          exact ih t _ _ b2 (gPut_ok b1 r2)
      exact go _ _ _ _ hx2 hx
    · exact s.no.elim
  · obtain ⟨w, rfl, rw'⟩ := r.one
    split at s
    · rename_i kvs k e0 e1
      obtain ⟨p, l, rfl, rr, dg⟩ := dget_ok hr e0 e1 rw' ro
      exact .inl ⟨p, w, _, rfl, rfl, dg, same_ok hr s (gVal_getD k rr)⟩
    · rename_i i kvs _ e0
      obtain ⟨c, s⟩ := ite_satb s
      rw [Bool.and_eq_true] at c
      obtain ⟨p, xs, rfl, _, _, rr, d⟩ := hr.getN ro (by assumption) (Nat.eq_of_beq_eq_true c.1)
      obtain ⟨b', k, rfl, e1, e2, e3⟩ := key_ref c.2 rw'
      refine .inr ⟨p, b', xs, k, rfl, rfl, d, e3, e2, same_ok hr s ?_⟩
      rcases nks_at e1 rr with ⟨z1, z2⟩ | ⟨_, _, z1, z2, z3⟩
      · rw [z1, z2]; exact rfl
      · rw [z1, z2]; exact z3
    · obtain ⟨c, s⟩ := ite_satb s
      obtain ⟨p, rfl, _, _, d⟩ := hr.getE ro (by assumption)
      obtain ⟨b', k, rfl, e1, e2, e3⟩ := key_ref c rw'
      exact .inr ⟨p, b', [], k, rfl, rfl, d, e3, e2, same_ok hr s rfl⟩
    · exact s.no.elim
  · obtain ⟨w, rfl, rw'⟩ := r.one
    split at s
    · rename_i i kvs e0
      obtain ⟨c, s⟩ := ite_satb s
      rw [Bool.and_eq_true] at c
      have hi := Nat.eq_of_beq_eq_true c.1
      obtain ⟨p, xs, rfl, hn, _, rr, d⟩ := hr.getN ro e0 hi
      obtain ⟨b', k, rfl, e1, e2, e3⟩ := key_ref c.2 rw'
      split at s
      · rename_i u eu
        rcases nks_at e1 rr with ⟨z1, z2⟩ | ⟨_, z, z1, z2, z3⟩
        · rw [eu] at z1; cases z1
        · rw [eu] at z1; cases z1
          exact ⟨p, b', xs, k, z, rfl, rfl, d, e3, e2, z2, set_okV hr s hn e0 ⟨p, _, hn, rfl, nks_drop e1 rr⟩ z3⟩
      · exact s.no.elim
    · exact s.no.elim
  · obtain ⟨w, rfl, rw'⟩ := r.one
    split at s
    · rename_i xs i e0
      cases rw'
      split at s
      · rename_i l e1
        split at s
        · rename_i kk e2
          obtain ⟨p, ys, rfl, hn, k1, hx⟩ := hr.getL ro e0
          obtain rfl := intsU_ok e1 hx
          obtain ⟨hlt, h1, h2⟩ := List.findIdx?_eq_some_iff_getElem.mp e2
          refine ⟨p, l.map V.int, .int i, kk, .int l[kk], rfl, rfl, SqL.of k1, rfl, ints_flat l, by rw [List.getElem?_map, List.getElem?_eq_getElem hlt] <;> rfl, ?_, fun mm z' hm hz => ?_, same_ok hr s rfl⟩
          · rw [eqV_int]; exact h1
          · rw [List.getElem?_map] at hz
            obtain ⟨y, hy, rfl⟩ := Option.map_eq_some_iff.mp hz
            have hml : mm < l.length := by omega
            rw [List.getElem?_eq_getElem hml] at hy
            cases hy
            rw [eqV_int]
            have := h2 mm hm
            simpa using this
        · exact s.no.elim
      · exact s.no.elim
    · exact s.no.elim
  · exact s.no.elim
theorem metTy_ok {m : List Addr} {H : Hp} {h : List Ob} {me : Me} {o : Uv} {v : V} (hr : HR g m H h) (ro : VR g m H o v) (e : metTy me o h = true) : tyW g.P g.w g.K (meT me) v H := by
  unfold metTy at e
  split at e
  · split at e
    · rename_i xs e0
      obtain ⟨p, ys, rfl, hn, k1, hx⟩ := hr.getL ro e0
      exact .inl (.inl ⟨rfl, ys, SqL.of k1⟩)
    · rename_i xs e0
      obtain ⟨p, ys, rfl, hn, k1, hx⟩ := hr.getL ro e0
      exact .inl (.inl ⟨rfl, ys, SqL.of k1⟩)
    · rename_i xs e0
      obtain ⟨p, ys, rfl, hn, k1, hx⟩ := hr.getL ro e0
      exact .inl (.inl ⟨rfl, ys, SqL.of k1⟩)
    · rename_i xs e0
      obtain ⟨p, ys, rfl, hn, k1, hx⟩ := hr.getD ro e0
      exact .inl (.inr (.inr (.inl ⟨rfl, .inl ⟨ys, k1⟩⟩)))
    · rename_i xs e0
      obtain ⟨p, ys, rfl, hn, k1, hx⟩ := hr.getD ro e0
      exact .inl (.inr (.inr (.inl ⟨rfl, .inl ⟨ys, k1⟩⟩)))
    · rename_i i kvs e0
      obtain ⟨p, xs, rfl, _, _, _, d⟩ := hr.getN ro e0 (Nat.eq_of_beq_eq_true e)
      exact .inr ⟨rfl, p, xs, rfl, d⟩
    · rename_i i kvs e0
      obtain ⟨p, xs, rfl, _, _, _, d⟩ := hr.getN ro e0 (Nat.eq_of_beq_eq_true e)
      exact .inr ⟨rfl, p, xs, rfl, d⟩
    · rename_i xs e0
      obtain ⟨p, ys, rfl, hn, k1, hx⟩ := hr.getL ro e0
      exact .inl (.inl ⟨rfl, ys, SqL.of k1⟩)
    · cases e
  · cases e
def plainO : Expr → Bool
  | .Name .. => true | .Subscript .. => true | .Attribute .. => true
  | _ => false
theorem base_of {o : Expr} (h : plainO o = true) (m : Str) (env : Env) : attributeBase o m env (eval o env) = eval o env := by
  cases o <;> first | rfl | cases h
theorem few_of {es : List Expr} {pos : Pos} {env : Env} (h : es.all plainE = true) (hl : es.length < 29) : ((backTo pos (starEach es env)).all (fun x => !x.1) && (backToKw pos (keywordEach [] env)).all (fun x => x.1.isSome)
      && decide (es.length + ([] : List Keyword).length + (if ([] : List Keyword).isEmpty then 0 else 1) < 30)) = true := by
  have h1 : (backTo pos (starEach es env)).all (fun x => !x.1) = true := by
    have z := any_stars (pos := pos) (env := env) h
    rw [List.all_eq_true]
    intro x hx
    rw [List.any_eq_false] at z
    have := z x hx
    simpa using this
  rw [h1]
  have h2 : es.length + ([] : List Keyword).length + (if ([] : List Keyword).isEmpty then 0 else 1) < 30 := by simp; omega
  rw [decide_eq_true h2]
  rfl
theorem n_met {me : Me} {es : List Expr} {is : List IE} {x : Str} {apos : Pos} (hK : X.K = g.K) (hP : X.prog = g.P) (hw : X.w = g.w) (hu : X.A.units + 9 < cLine) (hx : x = meN me) (ho : plainO d = true) (hl : (apos.endLine == pos.line) = true) (hp : (a :: es).all plainE = true) (hn : es.length < 20) (hme : me ≠ .pop)
    (hd : NE X g W q c hb d i) (ha : NA X g W q c hb (a :: es) is) : NE X g W q c hb (.Call (.Attribute d x apos) (a :: es) [] pos) (.met me i is) :=
  .mk fun n => by
    subst hx
    have hp' := hp
    rw [List.all_cons, Bool.and_eq_true] at hp'
    have w : ∀ σ H Q, TEv g W q (stepE c (evN c hb n) (.met me i is)) σ H Q → tBMW X.prog X.w X.K (meT me) (rMe X.prog X.w X.K me) (TEv g W q ((evN c hb n).E i)) (TAv g W q ((evN c hb n).Es is)) σ H Q := fun σ H Q ⟨m, s, h, A, S⟩ => ⟨m, s, h, A, (Sat.bind S).imp fun u h1 m1 H1 l1 hr1 S1 v rv => by
      obtain ⟨ct, S1⟩ := ite_satb S1
      exact ⟨by rw [hK, hP, hw]; exact metTy_ok hr1 rv ct, m1, s, h1, A.to l1 hr1, S1.bind.imp fun us h2 m2 H2 l2 hr2 S2 vs rvs => by rw [hK, hP, hw]; exact met_ok hr2 (VR.mono l2 _ _ rv) rvs S2⟩⟩
    have hf := few_of (pos := pos) (env := X.env) hp (by rw [List.length_cons]; omega)
    cases me with
    | append => exact (pe_bmW PySem.F.plainAttrs_list PySem.F.slot_list_append PySem.F.type_list_append mt_append (hd n) (ha n) (base_of ho _ _) hf hl (star_of hp'.1 _ _) (any_stars hp'.2)).of w
    | extend => exact (pe_bmW PySem.F.plainAttrs_list PySem.F.slot_list_extend PySem.F.type_list_extend (MtR.or mt_extend mt_extT) (hd n) (ha n) (base_of ho _ _) hf hl (star_of hp'.1 _ _) (any_stars hp'.2)).of w
    | pop => exact (hme rfl).elim
    | update => exact (pe_bmW PySem.F.plainAttrs_dict PySem.F.slot_dict_update PySem.F.type_dict_update mt_upd (hd n) (ha n) (base_of ho _ _) hf hl (star_of hp'.1 _ _) (any_stars hp'.2)).of w
    | get1 => exact (pe_bmW PySem.F.plainAttrs_dict PySem.F.slot_dict_get PySem.F.type_dict_get (MtR.or (mt_get1 (by omega)) (mt_getN hu)) (hd n) (ha n) (base_of ho _ _) hf hl (star_of hp'.1 _ _) (any_stars hp'.2)).of w
    | index => exact (pe_bmW PySem.F.plainAttrs_list PySem.F.slot_list_index PySem.F.type_list_index mt_index (hd n) (ha n) (base_of ho _ _) hf hl (star_of hp'.1 _ _) (any_stars hp'.2)).of w
    | pop1 => exact (pe_bmW PySem.F.plainAttrs_dict PySem.F.slot_dict_pop PySem.F.type_dict_pop (mt_popN hu) (hd n) (ha n) (base_of ho _ _) hf hl (star_of hp'.1 _ _) (any_stars hp'.2)).of w
theorem n_pop {x : Str} {apos : Pos} (hK : X.K = g.K) (hx : x = "pop") (ho : plainO d = true) (hl : (apos.endLine == pos.line) = true) (hd : NE X g W q c hb d i) : NE X g W q c hb (.Call (.Attribute d x apos) [] [] pos) (.met .pop i []) :=
  .mk fun n => by
    subst hx
    refine (pe_bm0 PySem.F.plainAttrs_list PySem.F.slot_list_pop PySem.F.type_list_pop mt_pop (hd n) (base_of ho _ _) hl).of fun σ H Q ⟨m, s, h, A, S⟩ => ⟨m, s, h, A, (Sat.bind S).imp fun u h1 m1 H1 l1 hr1 S1 v rv => ?_⟩
    obtain ⟨ct, S1⟩ := ite_satb S1
    refine ⟨by
      rw [hK]
      rcases metTy_ok hr1 rv ct with z | z
      · exact z
      · exact absurd z.1 (by decide), ?_⟩
    cases n with
    | zero => exact (Sat.bind S1).no.elim
    | succ n => exact met_ok (me := .pop) hr1 rv .nil ((Sat.bind S1).ok0 hr1)
theorem Sat.weak {g : Gs} {W : WX} {m m' : List Addr} {H H' : Hp} {α : Type} {r : R (α × List Ob)} {P : α → List Ob → List Addr → Hp → Prop} (x : Sat g W m H r P) (l : Le g m H m' H') : Sat g W m' H' r P :=
  R.all_mono (fun _ hp m2 H2 l2 hr => hp m2 H2 (l.trans l2) hr) (fun _ _ _ _ e => e.mono l) x
/-- tuple(d.values()) -/
theorem n_vals {x : Str} {p apos p2 : Pos} (hK : X.K = g.K) (hc : X.calm = true) (hx : x = "tuple") (hg : Gl X x) (hm : X.mg x = none) (ho : plainO a = true) (hl : (apos.endLine == p2.line) = true) (hi : plainI i = true) (ha : NE X g W q c hb a i) :
    NE X g W q c hb (.Call (.Name x p) [.Call (.Attribute a "values" apos) [] [] p2] [] pos) (.bi .dvals [i]) :=
  .mk fun n => by
    subst hx
    cases n with
    | zero => exact ⟨fun _ _ _ _ _ _ ⟨_, _, _, _, s⟩ => (Sat.bind s).no.elim⟩
    | succ n =>
      refine (pe_callTy (call_tupleV hc) hg hm (by decide +kernel) (pa_cons (pe_bm0 PySem.F.plainAttrs_dict PySem.F.slot_dict_values PySem.F.type_dict_values mt_vals (ha n) (base_of ho _ _) hl) pa_nil rfl) (by decide) (by decide) rfl rfl).of fun σ H Q ⟨m, s, h, A, S⟩ => ?_
      have S' := Sat.bind S
      · rw [show (evN c hb (n + 1)).Es [i] s h = stepEs (evN c hb n) [i] s h from rfl, stepEs_cons hi] at S'
        refine ⟨m, s, h, A, S'.bind.imp fun u h1 m1 H1 l1 hr1 S1 v rv => ?_⟩
        cases n with
        | zero => exact (Sat.bind S1).no.elim
        | succ n =>
          have S2 := (Sat.bind S1).ok0 hr1
          have S3 : Sat g W m1 H1 (evBi .dvals [u] h1) (VPost g Q) := Sat.ok0 S2 hr1
          cases u with
          | obj nn =>
            simp only [evBi] at S3
            split at S3
            · rename_i kvs e0
              obtain ⟨pd, l, rfl, hn, k1, hx⟩ := hr1.getD rv e0
              refine ⟨by rw [hK]; exact .inr (.inr (.inl ⟨rfl, .inl ⟨l, k1⟩⟩)), pd, l, rfl, rfl, k1, fun pv hv => ⟨pv, pd, l, rfl, upd_same, by rw [upd_ne (ne_of_none k1 hv)]; exact k1, fun q hq => ?_⟩⟩
              have L := Le.put (g := g) (m := m1) (o := valsO pv pd) hv
              have hr2 := hr1.put (o := valsO pv pd) hv
              exact tup_ok hr2 (Sat.weak S3 L) hq (VRs.mono L _ _ hx.valV')
            · exact S3.no.elim
          | _ => exact S3.no.elim
/-! ### len(set(x)), tuple(range(n)) -/
theorem VRs.rng0 {m : List Addr} {H : Hp} {z : Int} : ∀ l : List Nat, VRs g m H (l.map fun i => Uv.int (i : Nat)) (l.map fun i => V.int (0 + (i : Nat)))
  | [] => .nil
  | i :: l => .cons (show V.int (0 + (i : Nat)) = V.int (i : Nat) by rw [Int.zero_add]) (VRs.rng0 (z := z) l)
theorem keysU_ok {m : List Addr} {H : Hp} : ∀ {xs : List Uv} {l : List Key} {ys : List V}, keysU xs = some l → VRs g m H xs ys → ys = l.map kV
  | [], _, _, e, r => by cases e; rw [show _ = [] from r] <;> rfl
  | x :: xs, l, _, e, r => by
    obtain ⟨y, t, rfl, a, b⟩ := r
    simp only [keysU] at e
    cases e0 : keyU x with
    | none => rw [e0] at e; cases e
    | some k =>
      rw [e0] at e
      cases e1 : keysU xs with
      | none => rw [e1] at e; cases e
      | some l' =>
        rw [e1] at e
        cases e
        rw [keysU_ok e1 b, key_ok e0 a] <;> rfl
theorem keysAre_of (P : Program) (w : World) : ∀ {l : List Key} {us : List Value}, Vals (l.map kV) us → KeysAre us l
  | [], _, .nil => ⟨rfl, fun i v h => by simp at h⟩
  | k :: l, u :: us, .cons r t => by
    obtain ⟨h1, h2⟩ := keysAre_of P w t
    refine ⟨by simp [h1], fun i v h => ?_⟩
    cases i with
    | zero =>
      have e : u = v := by simpa using h
      subst e
      exact ⟨k, rfl, by rw [← mixKind_is P w]; exact kV_is r⟩
    | succ i => exact h2 i v (by simpa using h)
def tLenK (K : PySem.W.Frag) (ta : TE) : TE := fun σ H Q => ta σ H fun x H1 => ∃ (l : Addr) (ks : List Key), x = .ref l ∧ (SqL K H1 l (ks.map kV) ∨ SqT K H1 l (ks.map kV)) ∧ ks.length < 64 ∧ Q (.int ((ddK ks).length : Nat)) H1
theorem pe_lenK {ta : TE} {p p2 qq : Pos} (hc : X.calm = true) (hg : Gl X "len") (hm : X.mg "len" = none) (hg2 : Gl X "set") (hm2 : X.mg "set" = none) (ha : PE X a ta) (hp : plainE a = true) :
    PE X (.Call (.Name "len" p) [.Call (.Name "set" p2) [a] [] qq] [] pos) (tLenK X.K ta) := by
  refine ⟨fun pins s σ H Q I h => ?_⟩
  have na := star_of hp [] X.env
  refine Call_ (ld_blt I hg hm PySem.boot_len ?_)
  refine PyProof.Rows.callWith_builtin1 (PyProof.Rows.args_cons ?_ rfl) rfl rfl
  refine Call_ (ld_blt I hg2 hm2 PyProof.Rows.boot_set ?_)
  refine PyProof.Rows.callWith_type1 (PyProof.Rows.args_cons (thn (ha.run pins s σ H _ I h) fun v s1 ⟨x, H1, I1, r1, q1⟩ => PyProof.Rows.args_nil ?_) na) na rfl
  obtain ⟨l, ks, rfl, hq, h1, q1⟩ := q1
  cases r1
  have fin : ∀ (its : List Value), ∀ (h' : Heap) (tk : Nat), h'.SetOf (mixKind X.prog X.w) s1.heap.objs.size (hasK (ddK ks)) (ddK ks).length →
      (∀ b o, b < s1.heap.objs.size → s1.heap.get? b = some o → h'.get? b = some o) →
      wpAny (model X.prog X.w) X.A (spliced (backTo pos (starEach [] X.env))) (fun vs s₂ => wpAny (model X.prog X.w) X.A (call (.builtin "len") (Value.ref s1.heap.objs.size :: vs)) (EP X pins σ Q) X.xe s₂) X.xe { s1 with heap := h', toks := tk } := fun its h' tk hS hk => by
    refine PyProof.Rows.args_nil ?_
    obtain ⟨o, es, ep, t, ho, hex, hd, _, _, _, hf, hn⟩ := hS
    have I2 : Inv X pins σ H1 { s1 with heap := h', toks := tk } := I1.kept fun b o e => hk b o (Heap.lt_size e) e
    have hle := ddK_le ks
    refine call_len_set ho hex hd hf (by rw [hn] <;> omega) ⟨.int ((ddK ks).length : Nat), H1, I2.tok _, ⟨_, by rw [hn]⟩, q1⟩
  have hsb : ks.length + 1 < scanBound := by unfold scanBound; omega
  rcases hq with hq | hq
  · obtain ⟨its, r, pl, hz⟩ := I1.list hq
    exact RfS.setL (I1.ok.hd hc) pl.isList (by simpa using keysAre_of X.prog X.w r) hsb fun h' tk hS hk => fin its h' tk hS hk
  · obtain ⟨its, r, pl, hz⟩ := I1.tuple hq
    exact RfS.setT (I1.ok.hd hc) pl (by simpa using keysAre_of X.prog X.w r) hsb fun h' tk hS hk => fin its h' tk hS hk
theorem n_lenK {x y : Str} {p p2 qq : Pos} (hK : X.K = g.K) (hc : X.calm = true) (hx : x = "len") (hy : y = "set") (hg : Gl X x) (hm : X.mg x = none) (hg2 : Gl X y) (hm2 : X.mg y = none) (hp : plainE a = true) (hi : plainI i = true) (ha : NE X g W q c hb a i) :
    NE X g W q c hb (.Call (.Name x p) [.Call (.Name y p2) [a] [] qq] [] pos) (.bi .lenset [i]) :=
  .mk fun n => by
    subst hx hy
    cases n with
    | zero => exact ⟨fun _ _ _ _ _ _ ⟨_, _, _, _, s⟩ => (Sat.bind s).no.elim⟩
    | succ n =>
      refine (pe_lenK hc hg hm hg2 hm2 (ha n) hp).of fun σ H Q ⟨m, s, h, A, S⟩ => ?_
      have S' := Sat.bind S
      rw [show (evN c hb (n + 1)).Es [i] s h = stepEs (evN c hb n) [i] s h from rfl, stepEs_cons hi] at S'
      refine ⟨m, s, h, A, S'.bind.imp fun u h1 m1 H1 l1 hr1 S1 v rv => ?_⟩
      cases n with
      | zero => exact (Sat.bind S1).no.elim
      | succ n =>
        have S2 := (Sat.bind S1).ok0 hr1
        have S3 : Sat g W m1 H1 (evBi .lenset [u] h1) (VPost g Q) := Sat.ok0 S2 hr1
        simp only [evBi] at S3
        split at S3
        · rename_i xs e
          obtain ⟨p, ys, rfl, hp', hx⟩ := items_ok hr1 rv e
          obtain ⟨c0, S3⟩ := ite_sat S3
          split at S3
          · rename_i l el
            obtain rfl := keysU_ok el hx
            refine ⟨p, l, rfl, by rw [hK]; exact hp', ?_, same_ok hr1 S3 rfl⟩
            have := hx.length
            rw [List.length_map] at this
            omega
          · exact S3.no.elim
        · exact S3.no.elim
/-- tuple(range(n)) -/
theorem n_tupRng {x y : Str} {p p2 qq : Pos} (hc : X.calm = true) (hx : x = "tuple") (hy : y = "range") (hg : Gl X x) (hm : X.mg x = none) (hg2 : Gl X y) (hm2 : X.mg y = none) (hp : plainE a = true) (hi : plainI i = true) (ha : NE X g W q c hb a i) :
    NE X g W q c hb (.Call (.Name x p) [.Call (.Name y p2) [a] [] qq] [] pos) (.bi .tuprng [i]) :=
  .mk fun n => by
    subst hx hy
    cases n with
    | zero => exact ⟨fun _ _ _ _ _ _ ⟨_, _, _, _, s⟩ => (Sat.bind s).no.elim⟩
    | succ n =>
      refine (pe_tupRg hc hg hm (prg_1 hg2 hm2 (ha n) (star_of hp [] X.env)) rfl).of fun σ H Q ⟨m, s, h, A, S⟩ => ?_
      have S' := Sat.bind S
      rw [show (evN c hb (n + 1)).Es [i] s h = stepEs (evN c hb n) [i] s h from rfl, stepEs_cons hi] at S'
      refine ⟨m, s, h, A, S'.bind.imp fun u h1 m1 H1 l1 hr1 S1 v rv => ?_⟩
      cases n with
      | zero => exact (Sat.bind S1).no.elim
      | succ n =>
        have S2 := (Sat.bind S1).ok0 hr1
        have S3 : Sat g W m1 H1 (evBi .tuprng [u] h1) (VPost g Q) := Sat.ok0 S2 hr1
        cases u with
        | int z =>
          cases rv
          simp only [evBi] at S3
          obtain ⟨c0, S3⟩ := ite_satb S3
          rw [Bool.and_eq_true, decide_eq_true_eq, decide_eq_true_eq] at c0
          have hl : (lim : Int) ≤ 2 ^ 24 := by decide
          refine ⟨z, rfl, ⟨by omega, by omega, by omega, by omega, by omega⟩, fun p hp => tup_ok hr1 S3 hp ?_⟩
          exact (by rw [rgV, Int.sub_zero]; exact VRs.rng0 (z := z) _)
        | _ => exact S3.no.elim
end
end Rf
set_option maxHeartbeats 400000
namespace Rf
open PySem PySem.Spec PyProof.Rows L2 LamX
/-! ### what a def promises where no text is being shown -/
structure FnG (P : Program) (w : World) (K : PySem.W.Frag) (mg : Str → Option Value) (base : Heap) (CX : CXT) (k : Nat) (f : Addr) (fd : FuncData) (ps : List Str) (sp : Sp) : Prop where
  len : ∀ vs H Q E, sp vs H Q E → vs.length = ps.length
  run : ∀ (A : Around) (outer : List Env) (s : Shared) (H : Hp) (args : Args) (us : List Value) (vs : List V) (Q : VK) (E : XK), A.guards = some [] → Room k A → Env0 P w K mg base A outer s H → BindsTo s fd args (ps.zip us) → Vals vs us → sp vs H Q E →
    codeAny (model P w) A (.call (.ref f) args) (L2.CR CX outer P w H s Q E) s
section
variable {X : Cx} {CX : CXT} {k : Nat} {f C : Addr} {fd : FuncData} {ps : List Str} {sp : Sp} {E : L2.St → XK} {x m : Str} {p pos apos : Pos} {e o : Expr} {es : List Expr} {ta : TE} {t : TA}
theorem run_fnG {pins : List (Addr × Obj)} {σ : L2.St} {H : Hp} {s : Shared} {Q : VK} {us : List Value} {vs : List V} {E : XK} (F : FnG X.prog X.w X.K X.mg X.base CX k f fd ps sp) (hA : X.A.guards = some []) (hr : Room k X.A) (hb : L2.Binds X.K fd ps []) (hx : PassesAt CX X σ E)
    (I : Inv X pins σ H s) (r : Vals vs us) (h : sp vs H Q E) : wpAny (model X.prog X.w) X.A (call (.ref f) us) (EP X pins σ Q) X.xe s := by
  have hl : us.length = ps.length := by rw [← r.length]; exact F.len _ _ _ _ h
  have b := hb s us I.kIn (by rw [List.append_nil]; exact hl)
  rw [List.append_nil] at b
  refine wpAny_call (codeAny_mono (F.run X.A X.stack s H ⟨us, []⟩ us vs Q E hA hr I.env0 b r h) fun r s' hq => ?_)
  cases r with
  | error e => exact hx pins H s e s' I hq
  | ok fl =>
    cases fl with
    | ret u => exact I.after hq
    | next => exact False.elim hq
    | brk => exact False.elim hq
    | cont => exact False.elim hq
theorem pe_callG {E : L2.St → XK} (F : FnG X.prog X.w X.K X.mg X.base CX k f fd ps sp) (hA : X.A.guards = some []) (hr : Room k X.A) (hg : Gl X x) (hm : X.mg x = some (.ref f)) (hk : PySem.W.keepIn X.K (.ref f) = true) (hb : L2.Binds X.K fd ps []) (hx : ∀ σ, PassesAt CX X σ (E σ))
    (ha : PA X (e :: es) t) (hdb : (x == ("__debug__" : Str)) = false) (he : starEach (e :: es) X.env = (false, eval e X.env) :: starEach es X.env) (hpl : (backTo pos (starEach es X.env)).any (·.1) = false) :
    PE X (.Call (.Name x p) (e :: es) [] pos) (fun σ H Q => t σ H fun vs H1 => sp vs H1 Q (E σ)) := by
  refine ⟨fun pins s σ H Q I h => ?_⟩
  refine wpAny_Call_Name_kw (ld_glob I hg hm ?_ hdb)
  refine PySem.W.callWith_K (h₀ := X.base) I.ok.mod.kin hk (thn (ha.run pos pins s σ H _ I h) fun us s1 ⟨vs, H1, I1, r, q⟩ => ⟨I1.kIn, ?_⟩) he hpl
  exact run_fnG F hA hr hb (hx σ) I1 r q
/-- f(..) where defaults fill up -/
theorem pe_callGD {E : L2.St → XK} {ds : List Value} {dvs : List V} (F : FnG X.prog X.w X.K X.mg X.base CX k f fd ps sp) (hA : X.A.guards = some []) (hr : Room k X.A) (hg : Gl X x) (hm : X.mg x = some (.ref f)) (hk : PySem.W.keepIn X.K (.ref f) = true) (hb : L2.Binds X.K fd ps ds) (hd : Vals dvs ds) (hx : ∀ σ, PassesAt CX X σ (E σ))
    (ha : PA X (e :: es) t) (hdb : (x == ("__debug__" : Str)) = false) (he : starEach (e :: es) X.env = (false, eval e X.env) :: starEach es X.env) (hpl : (backTo pos (starEach es X.env)).any (·.1) = false) :
    PE X (.Call (.Name x p) (e :: es) [] pos) (fun σ H Q => t σ H fun vs H1 => sp (vs ++ dvs) H1 Q (E σ)) := by
  refine ⟨fun pins s σ H Q I h => ?_⟩
  refine wpAny_Call_Name_kw (ld_glob I hg hm ?_ hdb)
  refine PySem.W.callWith_K (h₀ := X.base) I.ok.mod.kin hk (thn (ha.run pos pins s σ H _ I h) fun us s1 ⟨vs, H1, I1, r, q⟩ => ⟨I1.kIn, ?_⟩) he hpl
  have r2 : Vals (vs ++ dvs) (us ++ ds) := r.append hd
  have hl : (us ++ ds).length = ps.length := by rw [← r2.length]; exact F.len _ _ _ _ q
  refine wpAny_call (codeAny_mono (F.run X.A X.stack s1 H1 ⟨us, []⟩ (us ++ ds) (vs ++ dvs) Q (E σ) hA hr I1.env0 (hb s1 us I1.kIn hl) r2 q) fun r s' hq => ?_)
  cases r with
  | error e => exact hx σ pins H1 s1 e s' I1 hq
  | ok fl =>
    cases fl with
    | ret u => exact I1.after hq
    | next => exact False.elim hq
    | brk => exact False.elim hq
    | cont => exact False.elim hq
/-- f(.., y = e) -/
theorem pe_callGK {E : L2.St → XK} {n : Nat} {y : Str} {kx : Expr} {kp : Pos} {tk : TE} (F : FnG X.prog X.w X.K X.mg X.base CX k f fd ps sp) (hA : X.A.guards = some []) (hr : Room k X.A) (hg : Gl X x) (hm : X.mg x = some (.ref f)) (hk : PySem.W.keepIn X.K (.ref f) = true) (hb : KBn X.K fd ps n [y] (fun us ws => us ++ ws) (fun vs zs => vs ++ zs)) (hx : ∀ σ, PassesAt CX X σ (E σ))
    (ha : PA X (e :: es) t) (hkw : PE X kx tk) (hdb : (x == ("__debug__" : Str)) = false) (he : starEach (e :: es) X.env = (false, eval e X.env) :: starEach es X.env) (hpl : (backTo pos (starEach (e :: es) X.env)).any (·.1) = false) :
    PE X (.Call (.Name x p) (e :: es) [⟨some y, kx, kp⟩] pos) (fun σ H Q => t σ H fun vs H1 => tCons tk tNil σ H1 fun zs H2 => vs.length = n ∧ zs.length = 1 ∧ sp (vs ++ zs) H2 Q (E σ)) := by
  have hall : (backToKw pos (keywordEach [⟨some y, kx, kp⟩] X.env)).all (·.1.isSome) = true := by rfl
  have hks : (backToKw pos (keywordEach [⟨some y, kx, kp⟩] X.env)).filterMap (·.1) = [y] := by rfl
  have hnn : (backToKw pos (keywordEach [⟨some y, kx, kp⟩] X.env)).any (·.1.isNone) = false := by rfl
  have hpl2 : ((backTo pos (starEach (e :: es) X.env)).any (·.1) || (backToKw pos (keywordEach [⟨some y, kx, kp⟩] X.env)).any (·.1.isNone)) = false := by rw [hpl, hnn] <;> rfl
  refine ⟨fun pins s σ H Q I h => ?_⟩
  refine wpAny_Call_Name_kw (ld_glob I hg hm ?_ hdb)
  refine PySem.W.callWith_KW (h₀ := X.base) I.ok.mod.kin hk hall (thn (ha.run pos pins s σ H _ I h) fun us s1 ⟨vs, H1, I1, r, q⟩ => ?_) hpl2 he
  refine thn ((pk_cons (nm := some y) (kpos := kp) hkw pk_nil).run pos pins s1 σ H1 _ I1 q) fun ws s2 ⟨zs, H2, I2, rz, l1, l2, q2⟩ => ⟨I2.kIn, ?_⟩
  rw [hks]
  refine wpAny_call (codeAny_mono (F.run X.A X.stack s2 H2 ⟨us, [y].zip ws⟩ (us ++ ws) (vs ++ zs) Q (E σ) hA hr I2.env0 (hb.to s2 us ws I2.kIn (r.length.symm.trans l1) (rz.length.symm.trans l2)) (hb.rel r rz) q2) fun r s' hq => ?_)
  cases r with
  | error e => exact hx σ pins H2 s2 e s' I2 hq
  | ok fl =>
    cases fl with
    | ret u => exact I2.after hq
    | next => exact False.elim hq
    | brk => exact False.elim hq
    | cont => exact False.elim hq
end
/-- what a function made of a lambda promises -/
structure FnL (P : Program) (w : World) (K : PySem.W.Frag) (mg : Str → Option Value) (base : Heap) (CX : CXT) (k : Nat) (F : LamD) (sp : Sp) : Prop where
  run : ∀ (f : Addr) (A : Around) (outer : List Env) (s : Shared) (H : Hp) (us : List Value) (vs : List V) (Q : VK) (E : XK), A.guards = some [] → Room k A → Env0 P w K mg base A outer s H → H f = some (LamO f F) → H F.c = some (LamX.CodeO F.c F.q) → Vals vs us → sp vs H Q E →
    codeAny (model P w) A (.call (.ref f) ⟨us, []⟩) (L2.CR CX outer P w H s Q E) s
/-- a def of the program, as its callers want it -/
structure Callee (X : Cx) (kr : Nat) (f : Addr) (np : Nat) (sp : Sp) : Prop where
  ex : ∃ fd ps, FnG X.prog X.w X.K X.mg X.base (L2.CX X.prog X.w) kr f fd ps sp ∧ L2.Binds X.K fd ps [] ∧ PySem.W.keepIn X.K (.ref f) = true
def spI (pr : Pr) (g : Gs) (k i : Nat) : Sp := fun vs H Q E => ∃ m h us, HR g m H h ∧ VRs g m H us vs ∧ Sat g (fun C d _ H' => E C d H') m H (callF pr k i us h) (VPost g Q)
theorem R.all_here {α : Type} {P : α → Prop} {E : XP} {s : Env'} : ∀ {r : R α}, (r.here s).all P E → r.all P fun c fs _ h => E c fs s h
  | .ok _, h => h
  | .exc _ _ _ _, h => h
  | .draw _ q, h => fun r hr => R.all_here (r := q r) (h r hr)
  | .fail, h => h
theorem Sat.here {g : Gs} {W : WX} {m : List Addr} {H : Hp} {s : Env'} {σ : L2.St} {α : Type} {r : R (α × List Ob)} {P : α → List Ob → List Addr → Hp → Prop} (x : Sat g W m H (r.here s) P) (hs : SR g m H s σ) : Sat g (fun C d _ H' => W C d σ H') m H r P :=
  R.all_mono (fun _ h => h) (fun _ _ _ _ e m' H' _ d l hr _ x => e m' H' σ d l hr (hs.mono l) x) (R.all_here x)
section
variable {X : Cx} {g : Gs} {W : WX} {q : Iv g} {c : Cf} {hb : Hbt} {a b d : Expr} {i j k : IE} {pos : Pos}
theorem n_call {pr : Pr} {k kr f : Nat} {np : Nat} {x : Str} {es : List Expr} {is : List IE} {p : Pos} (hc : c.call = callF pr k) (F : Callee X kr (g.ad f) np (spI pr g k f)) (tk : Takes X W) (hA : X.A.guards = some []) (hr : Room kr X.A) (hg : Gl X x) (hm : X.mg x = some (.ref (g.ad f)))
    (hdb : (x == ("__debug__" : Str)) = false) (hp : (a :: es).all plainE = true) (ha : NA X g W q c hb (a :: es) is) : NE X g W q c hb (.Call (.Name x p) (a :: es) [] pos) (.call f is) :=
  .mk fun n => by
    rw [List.all_cons, Bool.and_eq_true] at hp
    obtain ⟨fd, ps, F, hb', hk⟩ := F.ex
    refine (pe_callG (E := WE W) F hA hr hg hm hk hb' (passAt tk) (ha n) hdb (star_of hp.1 _ _) (any_stars hp.2)).of fun σ H Q ⟨m, s, h, A, S⟩ => ?_
    refine ⟨m, s, h, A, (Sat.bind S).imp fun us h1 m1 H1 l1 hr1 S1 vs rv => ?_⟩
    rw [hc] at S1
    exact ⟨m1, h1, us, hr1, rv, S1.here (A.sr.mono l1)⟩
theorem lamAt_some {n j : Nat} {h : List Ob} (e : lamAt n h = some j) : h[n]? = some (.lam n j) := by
  unfold lamAt at e
  split at e
  · rename_i i j' e1
    split at e
    · rename_i e2
      cases e
      rw [e1, Nat.eq_of_beq_eq_true e2]
    · cases e
  · cases e
theorem lamF_at {P : Program} {w : World} {H : Hp} {h : Heap} {f : Addr} {F : LamD} (hok : HOk P w H h) (e : H f = some (LamO f F)) : LamIs f F h := by
  obtain ⟨z, _, _⟩ := hok f _ e
  exact z
/-- a call of what a name holds: one of the program's defs, or a function made of a lambda -/
theorem n_callv {pr : Pr} {k kr ix : Nat} {x : Str} {es : List Expr} {is : List IE} {p : Pos} (hc : c.call = callF pr k) (Fl : ∀ j F, g.LS j F → FnL X.prog X.w X.K X.mg X.base (L2.CX X.prog X.w) kr F (spI pr g k j)) (F : ∀ f, c.has f = true → ∃ np, Callee X kr (g.ad f) np (spI pr g k f)) (tk : Takes X W) (hA : X.A.guards = some []) (hr : Room kr X.A)
    (hN : X.N[ix]? = some x) (hv : Vis X.env.scope x) (hdb : (x == ("__debug__" : Str)) = false) (hcd : (x == ("__classdict__" : Str)) = false) (hp : (a :: es).all plainE = true) (ha : NA X g W q c hb (a :: es) is) : NE X g W q c hb (.Call (.Name x p) (a :: es) [] pos) (.callv ix is) :=
  .mk fun n => by
    rw [List.all_cons, Bool.and_eq_true] at hp
    refine ⟨fun pins s0 σ H Q I ⟨m, s, h, A, S⟩ => ?_⟩
    simp only [stepE] at S
    split at S
    · rename_i f e
      obtain ⟨v, e1, rv⟩ := A.sr.2 _ _ e
      cases rv
      obtain ⟨ct, S⟩ := ite_satb S
      obtain ⟨np, F⟩ := F f ct
      obtain ⟨fd, ps, F, hb', hk⟩ := F.ex
      refine wpAny_Call_Name_kw (thn ((pe_var (pos := p) hN hv hdb hcd).run pins s0 σ H (fun v H1 => v = .ref (g.ad f) ∧ H1 = H) I ⟨_, e1, rfl, rfl⟩) fun u s1 ⟨v, H1, I1, r1, q1⟩ => ?_)
      obtain ⟨rfl, rfl⟩ := q1
      cases r1
      have hq : TAv g W q ((evN c hb n).Es is) σ H1 (fun vs H1 => spI pr g k f vs H1 Q (WE W σ)) := ⟨m, s, h, A, S.bind.imp fun us h1 m1 H1 l1 hr1 S1 vs rv => by
        rw [hc] at S1
        exact ⟨m1, h1, us, hr1, rv, S1.here (A.sr.mono l1)⟩⟩
      refine PySem.W.callWith_K (h₀ := X.base) I.ok.mod.kin hk (thn ((ha n).run pos pins s1 σ _ _ I1 hq) fun us s2 ⟨vs, H2, I2, r, q2⟩ => ⟨I2.kIn, ?_⟩) (star_of hp.1 _ _) (any_stars hp.2)
      exact run_fnG F hA hr hb' (passAt tk σ) I2 r q2
    · rename_i nn e
      obtain ⟨v, e1, rv⟩ := A.sr.2 _ _ e
      obtain ⟨f, rfl, hm⟩ := rv
      split at S
      · rename_i j0 el
        obtain ⟨pa, ho, a1, a2, f0, F0, a3, rfl, _, _, _⟩ := A.hr.at_ nn _ (lamAt_some el)
        rw [hm] at a1 a3
        cases a1
        cases a3
        refine wpAny_Call_Name_kw (thn ((pe_var (pos := p) hN hv hdb hcd).run pins s0 σ H (fun v H1 => v = .ref f ∧ H1 = H) I ⟨_, e1, rfl, rfl⟩) fun u s1 ⟨v, H1, I1, r1, q1⟩ => ?_)
        obtain ⟨rfl, rfl⟩ := q1
        cases r1
        have hq : TAv g W q ((evN c hb n).Es is) σ H1 (fun vs H2 => ∃ j F, H2 f = some (LamO f F) ∧ H2 F.c = some (LamX.CodeO F.c F.q) ∧ g.LS j F ∧ spI pr g k j vs H2 Q (WE W σ)) := ⟨m, s, h, A, S.bind.imp fun us h1 m1 H2 l1 hr1 S1 vs rv => by
          split at S1
          · rename_i j el2
            obtain ⟨pb, hb, b1, b2, f1, F1, b3, rfl, b4, b5, _⟩ := hr1.at_ nn _ (lamAt_some el2)
            have hm1 := pre_get l1.pre hm
            rw [hm1] at b1 b3
            cases b1
            cases b3
            rw [hc] at S1
            exact ⟨j, F1, b2, b5, b4, m1, h1, us, hr1, rv, S1.here (A.sr.mono l1)⟩
          · exact S1.no.elim⟩
        have fa : PySem.W.FnAt f s1.heap := by
          obtain ⟨od, sl, pm, ctv, ho⟩ := lamF_at I1.hok a2
          exact ⟨_, od, _, sl, ho⟩
        refine PySem.W.callWith_F (first := []) fa (thn ((ha n).run pos pins s1 σ _ _ I1 hq) fun us s2 ⟨vs, H2, I2, r, j, F1, q1, q2, q3, q4⟩ => ⟨?_, ?_⟩) (star_of hp.1 _ _) (any_stars hp.2)
        · obtain ⟨od, sl, pm, ctv, ho⟩ := lamF_at I2.hok q1
          exact ⟨_, od, _, sl, ho⟩
        show wpAny _ _ (call (.ref f) us) _ _ _
        refine wpAny_call (codeAny_mono ((Fl j F1 q3).run f X.A X.stack s2 H2 us vs Q (WE W σ) hA hr I2.env0 q1 q2 r q4) fun r s' hq => ?_)
        cases r with
        | error e => exact passAt tk σ pins H2 s2 e s' I2 hq
        | ok fl =>
          cases fl with
          | ret u => exact I2.after hq
          | next => exact False.elim hq
          | brk => exact False.elim hq
          | cont => exact False.elim hq
      · exact S.no.elim
    · exact S.no.elim
/-- a def with one keyword-only parameter -/
structure CalleeK (X : Cx) (kr : Nat) (f : Addr) (n : Nat) (y : Str) (sp : Sp) : Prop where
  ex : ∃ fd ps, FnG X.prog X.w X.K X.mg X.base (L2.CX X.prog X.w) kr f fd ps sp ∧ KBn X.K fd ps n [y] (fun us ws => us ++ ws) (fun vs zs => vs ++ zs) ∧ PySem.W.keepIn X.K (.ref f) = true
theorem n_callk {pr : Pr} {kr kk f n : Nat} {x y : Str} {es : List Expr} {is : List IE} {p kp : Pos} (hc : c.call = callF pr kk) (F : CalleeK X kr (g.ad f) n y (spI pr g kk f)) (tk : Takes X W) (hA : X.A.guards = some []) (hr : Room kr X.A) (hg : Gl X x) (hm : X.mg x = some (.ref (g.ad f)))
    (hdb : (x == ("__debug__" : Str)) = false) (hp : (a :: es).all plainE = true) (ha : NA X g W q c hb (a :: es) is) (hb' : NE X g W q c hb b j) : NE X g W q c hb (.Call (.Name x p) (a :: es) [⟨some y, b, kp⟩] pos) (.callk f n is j) :=
  .mk fun n' => by
    rw [List.all_cons, Bool.and_eq_true] at hp
    obtain ⟨fd, ps, F, hb2, hk⟩ := F.ex
    refine (pe_callGK (E := WE W) F hA hr hg hm hk hb2 (passAt tk) (ha n') (hb' n') hdb (star_of hp.1 _ _) (any_stars (by rw [List.all_cons, hp.1, hp.2] <;> rfl))).of fun σ H Q ⟨m, s, h, A, S⟩ => ?_
    refine ⟨m, s, h, A, (Sat.bind S).imp fun us h1 m1 H1 l1 hr1 S1 vs rv => ⟨m1, s, h1, A.to l1 hr1, (Sat.bind S1).imp fun u h2 m2 H2 l2 hr2 S2 z rz => ?_⟩⟩
    obtain ⟨ct, S2⟩ := ite_sat S2
    rw [hc] at S2
    exact ⟨by rw [← rv.length]; exact ct, rfl, m2, h2, us ++ [u], hr2, (VRs.mono l2 _ _ rv).append (.cons rz .nil), S2.here ((A.sr.mono l1).mono l2)⟩
/-- a def whose last parameters have defaults -/
structure CalleeD (X : Cx) (g : Gs) (kr : Nat) (f : Addr) (dus : List Uv) (sp : Sp) : Prop where
  ex : ∃ fd ps ds dvs, FnG X.prog X.w X.K X.mg X.base (L2.CX X.prog X.w) kr f fd ps sp ∧ L2.Binds X.K fd ps ds ∧ Vals dvs ds ∧ (∀ m H, VRs g m H dus dvs) ∧ PySem.W.keepIn X.K (.ref f) = true
theorem n_calld {pr : Pr} {kr kk f : Nat} {dus : List Uv} {x : Str} {es : List Expr} {is : List IE} {p : Pos} (hc : c.call = callF pr kk) (F : CalleeD X g kr (g.ad f) dus (spI pr g kk f)) (tk : Takes X W) (hA : X.A.guards = some []) (hr : Room kr X.A) (hg : Gl X x) (hm : X.mg x = some (.ref (g.ad f)))
    (hdb : (x == ("__debug__" : Str)) = false) (hp : (a :: es).all plainE = true) (ha : NA X g W q c hb (a :: es) is) : NE X g W q c hb (.Call (.Name x p) (a :: es) [] pos) (.calld f is dus) :=
  .mk fun n' => by
    rw [List.all_cons, Bool.and_eq_true] at hp
    obtain ⟨fd, ps, ds, dvs, F, hb2, hd, hv, hk⟩ := F.ex
    refine (pe_callGD (E := WE W) F hA hr hg hm hk hb2 hd (passAt tk) (ha n') hdb (star_of hp.1 _ _) (any_stars hp.2)).of fun σ H Q ⟨m, s, h, A, S⟩ => ?_
    refine ⟨m, s, h, A, (Sat.bind S).imp fun us h1 m1 H1 l1 hr1 S1 vs rv => ?_⟩
    rw [hc] at S1
    exact ⟨m1, h1, us ++ dus, hr1, rv.append (hv _ _), S1.here (A.sr.mono l1)⟩
/-- a call with a keyword of what a name holds -/
theorem n_callvk {pr : Pr} {kr kk ix : Nat} {x y : Str} {es : List Expr} {is : List IE} {p kp : Pos} (hc : c.call = callF pr kk) (F : ∀ f n, kwN c.kws f = some (n, y) → CalleeK X kr (g.ad f) n y (spI pr g kk f)) (tk : Takes X W) (hA : X.A.guards = some []) (hr : Room kr X.A)
    (hN : X.N[ix]? = some x) (hv : Vis X.env.scope x) (hdb : (x == ("__debug__" : Str)) = false) (hcd : (x == ("__classdict__" : Str)) = false) (hp : (a :: es).all plainE = true) (ha : NA X g W q c hb (a :: es) is) (hb' : NE X g W q c hb b j) : NE X g W q c hb (.Call (.Name x p) (a :: es) [⟨some y, b, kp⟩] pos) (.callvk ix is y j) :=
  .mk fun n => by
    rw [List.all_cons, Bool.and_eq_true] at hp
    refine ⟨fun pins s0 σ H Q I ⟨m, s, h, A, S⟩ => ?_⟩
    simp only [stepE] at S
    split at S
    · rename_i f e
      obtain ⟨v, e1, rv⟩ := A.sr.2 _ _ e
      cases rv
      split at S
      · rename_i pp ek
        obtain ⟨nn, y'⟩ := pp
        obtain ⟨ct, S5⟩ := ite_sat S
        clear S
        have ct : y' = y := ct
        subst ct
        obtain ⟨fd, ps, F, hb2, hk⟩ := (F f nn ek).ex
        refine wpAny_Call_Name_kw (thn ((pe_var (pos := p) hN hv hdb hcd).run pins s0 σ H (fun v H1 => v = .ref (g.ad f) ∧ H1 = H) I ⟨_, e1, rfl, rfl⟩) fun u s1 ⟨v, H1, I1, r1, q1⟩ => ?_)
        obtain ⟨rfl, rfl⟩ := q1
        cases r1
        have hall : (backToKw pos (keywordEach [⟨some y', b, kp⟩] X.env)).all (·.1.isSome) = true := by rfl
        have hks : (backToKw pos (keywordEach [⟨some y', b, kp⟩] X.env)).filterMap (·.1) = [y'] := by rfl
        have hnn : (backToKw pos (keywordEach [⟨some y', b, kp⟩] X.env)).any (·.1.isNone) = false := by rfl
        have hpl : (backTo pos (starEach (a :: es) X.env)).any (·.1) = false := any_stars (by rw [List.all_cons, hp.1, hp.2] <;> rfl)
        have hpl2 : ((backTo pos (starEach (a :: es) X.env)).any (·.1) || (backToKw pos (keywordEach [⟨some y', b, kp⟩] X.env)).any (·.1.isNone)) = false := by rw [hpl, hnn] <;> rfl
        have hq : TAv g W q ((evN c hb n).Es is) σ H1 (fun vs H1 => tCons (TEv g W q ((evN c hb n).E j)) tNil σ H1 fun zs H2 => vs.length = nn ∧ zs.length = 1 ∧ spI pr g kk f (vs ++ zs) H2 Q (WE W σ)) :=
          by
            have S3 := Sat.bind S5
            refine ⟨m, s, h, A, S3.imp fun us h1 m1 H1 l1 hr1 S1 vs rv => ?_⟩
            have S4 := Sat.bind S1
            refine ⟨m1, s, h1, A.to l1 hr1, S4.imp fun u h2 m2 H2 l2 hr2 S2 z rz => ?_⟩
            obtain ⟨ct, S2⟩ := ite_sat S2
            rw [hc] at S2
            exact ⟨by rw [← rv.length]; exact ct, rfl, m2, h2, us ++ [u], hr2, (VRs.mono l2 _ _ rv).append (.cons rz .nil), S2.here ((A.sr.mono l1).mono l2)⟩
        refine PySem.W.callWith_KW (h₀ := X.base) I.ok.mod.kin hk hall (thn ((ha n).run pos pins s1 σ _ _ I1 hq) fun us s2 ⟨vs, H2, I2, r, q2⟩ => ?_) hpl2 (star_of hp.1 _ _)
        refine thn ((pk_cons (nm := some y') (kpos := kp) (hb' n) pk_nil).run pos pins s2 σ H2 _ I2 q2) fun ws s3 ⟨zs, H3, I3, rz, l1, l2, q3⟩ => ⟨I3.kIn, ?_⟩
        rw [hks]
        refine wpAny_call (codeAny_mono (F.run X.A X.stack s3 H3 ⟨us, [y'].zip ws⟩ (us ++ ws) (vs ++ zs) Q (WE W σ) hA hr I3.env0 (hb2.to s3 us ws I3.kIn (r.length.symm.trans l1) (rz.length.symm.trans l2)) (hb2.rel r rz) q3) fun r s' hq => ?_)
        cases r with
        | error e => exact passAt tk σ pins H3 s3 e s' I3 hq
        | ok fl =>
          cases fl with
          | ret u => exact I3.after hq
          | next => exact False.elim hq
          | brk => exact False.elim hq
          | cont => exact False.elim hq
      · exact S.no.elim
    · exact S.no.elim
end
end Rf
set_option maxHeartbeats 4000000
namespace RfE
open PySem PySem.Spec PyProof.Rows L2
/-! enumerate of a tuple -/
theorem meets_new_enumT (l : Addr) (items : Array Value) (n : Nat) (dct : Option Addr) (sl : Array (Option Value)) :
    Meets (Builtin.«enumerate.__new__» ⟨[.type "enumerate", .ref l], []⟩) (fun _ R s => s.heap.get? l = some { cls := .type "tuple", dict := dct, data := .seq items n, slots := sl } ∧
      R (.ok (.ret (.ref (s.heap.push { cls := .type "tuple_iterator", data := .fields #[.ref l, .int 0 0] }).objs.size)))
        { s with heap := (s.heap.push { cls := .type "tuple_iterator", data := .fields #[.ref l, .int 0 0] }).push { cls := .type "enumerate", data := .fields #[.none, .bool false, .ref s.heap.objs.size, rawInt 0, .none, .none] } }) :=
  .of_wp fun prog w A R s h => by
    obtain ⟨hp, g, d, tk, os⟩ := s; obtain ⟨hl, h⟩ := h
    have hsub := sub_enumerate
    have hT : Heap.IsTuple (Shared.heap ⟨hp, g, d, tk, os⟩) l items := ⟨_, hl, rfl, n, rfl⟩
    wp_walk using wpAny_loadPart' hl
    refine wpAny_stack_any fun st => wpAny_pure ?_
    split
    · rename_i c _ _ _ _ _
      cases (c == Value.type "enumerate")
      · wp_walk using wpAny_loadPart' hl, wpAny_pyIter_tuple hT
        exact ⟨_, rfl, h⟩
      · wp_walk using wpAny_loadPart' hl, wpAny_pyIter_tuple hT
        exact ⟨_, rfl, h⟩
    · wp_walk using wpAny_loadPart' hl, wpAny_pyIter_tuple hT
      exact ⟨_, rfl, h⟩
section
variable {prog : Program} {w : World} {A : Around} {E : Value → Shared → Prop} {s : Shared}
theorem call_enumT {l : Addr} {items : Array Value} {Q : Value → Shared → Prop} (hL : s.heap.IsTuple l items)
    (h : ∀ h', IsEnum h' (s.heap.objs.size + 1) s.heap.objs.size 0 .none → h'.IsTupleIter s.heap.objs.size l 0 → h'.objs.size = s.heap.objs.size + 2 →
      (∀ b o, s.heap.get? b = some o → h'.get? b = some o) → Q (.ref (s.heap.objs.size + 1)) { s with heap := h' }) :
    wpAny (model prog w) A (call (.type "enumerate") [.ref l]) Q E s := by
  obtain ⟨⟨c, dct, dt, sl⟩, hl, hc, n, hd⟩ := hL
  replace hc : c = .type "tuple" := hc
  replace hd : dt = .seq items n := hd
  subst hc hd
  refine callType_new F.called_enumerate (by decide) (F.typeCall_enumerate_1 _) (F.newCall_enumerate_1 _) (fun obj => F.args_object_init_2 obj _) F.entry_enumerate_new
    (meets_new_enumT l items n dct sl) ⟨hl, ?_⟩
  have hz : (s.heap.push { cls := .type "tuple_iterator", data := .fields #[.ref l, .int 0 0] }).objs.size = s.heap.objs.size + 1 := Heap.size_push ..
  show _ ∧ _
  rw [hz]
  have he : IsEnum ((s.heap.push { cls := .type "tuple_iterator", data := .fields #[.ref l, .int 0 0] }).push
      { cls := .type "enumerate", data := .fields #[.none, .bool false, .ref s.heap.objs.size, rawInt 0, .none, .none] }) (s.heap.objs.size + 1) s.heap.objs.size 0 .none := by
    have := Heap.get?_push_size (s.heap.push { cls := .type "tuple_iterator", data := .fields #[.ref l, .int 0 0] })
      (o := { cls := .type "enumerate", data := .fields #[.none, .bool false, .ref s.heap.objs.size, rawInt 0, .none, .none] }) rfl
    rw [hz] at this; exact this
  refine ⟨⟨_, he, rfl⟩, h _ he ⟨_, Heap.get?_push_of_some _ (Heap.get?_push_size _ rfl), rfl, rfl⟩ (by rw [Heap.size_push, hz]) fun b o x => Heap.get?_push_of_some _ (Heap.get?_push_of_some _ x)⟩
end
section
variable {prog : Program} {w : World} {A : Around} {E : Value → Shared → Prop} {s : Shared}
theorem wpAny_enumT_end {e it l : Addr} {i : Nat} {items : Array Value} {old : Value} {Q : Option Value → Shared → Prop} (hh : A.handled = none)
    (he : IsEnum s.heap e it i old) (hit : s.heap.IsTupleIter it l i) (hl : s.heap.IsTuple l items) (hx : items[i]? = none)
    (hQ : ∀ h', Heap.ExtBut it s.heap h' → Q none { s with heap := h' }) : wpAny (model prog w) A (pyNext (.ref e)) Q E s := by
  have hT : s.TypeIs (.ref e) "enumerate" := ⟨_, he, rfl⟩
  unfold pyNext
  refine wpAny_bind (wpAny_attempt (wpAny_callSpecial?_slot (name := Str.ofString "__next__") hT F.slot_enumerate_next
    (wpAny_call_entry F.slot_enumerate_next hT F.entry_enumerate_next ?_ (F.args_enumerate_next_1 _))))
  show wpAny _ _ (field (.ref e) 2 >>= _) _ _ _
  refine wpAny_bind (wpAny_field he rfl (x := .ref it) rfl ?_)
  refine wpAny_bind (wpAny_nextOf_tuple_end (A := A.in1) hh hit hl hx fun h' x he' hx' => ?_)
  obtain ⟨o, ho, hc⟩ := hx'
  refine wpAny_bind (wpAny_isInstance (T := "StopIteration") (b := true) ⟨o, ho, hc⟩ isSubtype_stop ?_)
  exact wpAny_pure (hQ _ he')
end
/-- the tuple at a as it stands at each turn, each item in a new pair -/
def IteT (K : PySem.W.Frag) (a : Addr) : It :=
  ⟨fun i H => ∃ (xs : List V) (x : V), SqT K H a xs ∧ xs[i]? = some x, fun i H v H' => ∃ T x, v = .ref T ∧ H T = none ∧ H' = upd H T (.tup [.int (i : Nat), x]) ∧ ∀ xs, SqT K H a xs → xs[i]? = some x, fun i H => ∃ xs : List V, SqT K H a xs ∧ xs.length ≤ i⟩
theorem turn_enumT {P : Program} {w : World} {K : PySem.W.Frag} {elts : List Expr} {kk : Nat} {tpos : Pos} (a e it : Addr) :
    Turn P w K (.Tuple elts kk tpos) (IteT K a) [e, it] e (fun i h => (∃ old, IsEnum h e it ((i : Nat) : Int) old) ∧ h.IsTupleIter it a i ∧ e ≠ it) where
  mem := by simp
  obj := fun i h st b hb => by
    obtain ⟨⟨old, he⟩, ⟨o, ho, hc, hd⟩, _⟩ := st
    have e' : b = e ∨ b = it := by simpa using hb
    rcases e' with z | z
    · rw [z]; exact ⟨_, he, fun v q => nomatch q⟩
    · rw [z]; exact ⟨o, ho, fun v q => by rw [hd] at q; cases q⟩
  keep := fun i h h' st k => let ⟨⟨old, he⟩, hi, hne⟩ := st; ⟨⟨old, k e (by simp) _ he⟩, hi.at fun o q => k it (by simp) o q, hne⟩
  item := by
    intro X hP hw hK hc i pins s σ H E I hf st hg
    subst hP hw hK
    obtain ⟨⟨old, he⟩, hit, hne⟩ := st
    obtain ⟨xs, x, hq, hx⟩ := hg
    obtain ⟨its, rv, p, hz⟩ := I.tuple hq
    obtain ⟨u, hu, ru⟩ := rv.get hx
    have hel : e < s.heap.objs.size := Heap.lt_size he
    have hil : it < s.heap.objs.size := by obtain ⟨_, q, _⟩ := hit; exact Heap.lt_size q
    obtain ⟨o1, ho1, hc1, hd1⟩ := id hit
    obtain ⟨o2, ho2, hc2, _⟩ := id p
    have nai : a ≠ it := fun z => by
      rw [z, ho1] at ho2
      cases ho2
      rw [hc1] at hc2
      exact absurd hc2 (by decide +kernel)
    have nae : e ≠ a := fun z => by
      rw [← z, show s.heap.get? e = some _ from he] at ho2
      cases ho2
      exact absurd hc2 (by show ¬ Value.type "enumerate" = _; decide +kernel)
    have D : Draws X.prog X.w X.A.in1 it [it, a] its.toArray.size (fun i v => its.toArray[i]? = some v) (fun i h => h.IsTupleIter it a i ∧ h.IsTuple a its.toArray) := Draws.tuple (A := X.A.in1) (I.ok.hd hc) it a nai its.toArray
    have hsz : i < its.toArray.size := by
      rw [List.size_toArray]
      exact (List.getElem?_eq_some_iff.mp hu).1
    refine wpAny_pyNext_enum_itemD D he ⟨hit, p⟩ hsz hne (by simp [hne, nae]) fun x' h' tk hx' ho hst' hT hsz' hk => ?_
    have ex : u = x' := by
      have z : its[i]? = some x' := by simpa using hx'
      rw [hu] at z
      exact Option.some.inj z
    subst ex
    refine ⟨_, rfl, wpAny_letOwnedTupleGo_enum (s := { s with heap := h', toks := tk + 1 }) ho fun h'' he' sb => ?_⟩
    have hT2 : h''.get? s.heap.objs.size = some { cls := .type "tuple", data := .seq #[.int i tk, u] } := (sb.2 _ (Nat.ne_of_gt hel)).trans hT
    have new : ObjOk X.prog X.w (upd H s.heap.objs.size (.tup [.int (i : Nat), x])) h'' s.heap.objs.size (.tup [.int (i : Nat), x]) :=
      ⟨by show 2 ≤ sizeLine; decide, [.int i tk, u], .cons ⟨_, rfl⟩ (.cons ru .nil), ⟨_, hT2, rfl, _, rfl⟩⟩
    have I1 : Inv X pins σ (upd H s.heap.objs.size (.tup [.int (i : Nat), x])) { s with heap := h'', toks := tk + 1 } :=
      I.turnedNew (ch := [e, it]) (fun b ob hb q => (sb.2 b (fun z => hb (by simp [z]))).trans (hk b ob (fun z => hb (by simp [z])) (fun z => hb (by simp [z])) q)) hf (Nat.le_refl _) new
    refine ⟨.ref s.heap.objs.size, _, I1, rfl, ⟨_, x, rfl, I.hok.fresh (Nat.le_refl _), rfl, fun ys hy => by rw [I.tuple_inj hy hq]; exact hx⟩, ⟨⟨u, ?_⟩, hst'.1.at fun o q => (sb.2 it (Ne.symm hne)).trans q, hne⟩, fun b hb => ?_⟩
    · have e1 : ((i + 1 : Nat) : Int) = (i : Int) + 1 := by omega
      rw [e1]; exact he'
    · have hb' : b < s.heap.objs.size := by
        have e' : b = e ∨ b = it := by simpa using hb
        rcases e' with z | z
        · rw [z]; exact hel
        · rw [z]; exact hil
      rw [upd_ne (Nat.ne_of_lt hb')]
      exact (hf b hb).1
  done := by
    intro X hP hw hK hc i pins s σ H E I hf st hg
    subst hP hw hK
    obtain ⟨⟨old, he⟩, hit, hne⟩ := st
    obtain ⟨xs, hq, hx⟩ := hg
    obtain ⟨its, rv, p, hz⟩ := I.tuple hq
    obtain ⟨f0, f1, f2, f3, f4, f5⟩ := hf it (by simp)
    have hl := rv.length
    refine wpAny_enumT_end (I.ok.hd hc) he hit p (by simp; omega) fun h' eb => ⟨rfl, I.turned (t' := s.toks) (fun b o hb q => eb b o hb q) f0 f1 f3 f4 f5⟩
  self := fun A i s Q E st h => let ⟨⟨_, he⟩, _⟩ := st; wpAny_pyIter_enum he h
/-- enumerate of a list or a tuple -/
def iEnumA (K : PySem.W.Frag) (ta : TA) : TI := fun σ H R => ta σ H fun vs H1 => ∃ a xs, vs = [.ref a] ∧ ((SqL K H1 a xs ∧ R (Ite K a) H1) ∨ (SqT K H1 a xs ∧ R (IteT K a) H1))
theorem pi_enumA {X : Cx} {e : Expr} {ta : TA} {p pos tpos : Pos} {elts : List Expr} {kk : Nat} (hg : Gl X "enumerate") (hm : X.mg "enumerate" = none) (ha : PA X [e] ta) (hs : starEach [e] X.env = (false, eval e X.env) :: starEach [] X.env) :
    PI X (.Tuple elts kk tpos) (.Call (.Name "enumerate" p) [e] [] pos) (iEnumA X.K ta) := by
  refine ⟨fun pins s σ H R I h => ?_⟩
  refine Call_ (ld_blt I hg hm boot_enumerate (PyProof.Rows.callWith_type1 (thn (ha.run pos pins s σ H _ I h) fun us s1 ⟨vs, H1, I1, r1, q1⟩ => ?_) hs rfl))
  obtain ⟨a, xs, ex, q1⟩ := q1
  subst ex
  have new : ∀ b, (b = s1.heap.objs.size + 1 ∨ b = s1.heap.objs.size) → FpOk X pins H1 b := fun b e' => by
    have hle : s1.heap.objs.size ≤ b := by
      rcases e' with z | z
      · rw [z]; exact Nat.le_add_right _ _
      · rw [z]; exact Nat.le_refl _
    exact I1.fpOk hle (I1.hok.fresh hle)
  cases r1 with
  | cons r rr =>
    cases rr
    cases r
    rcases q1 with ⟨hq, q⟩ | ⟨hq, q⟩
    · obtain ⟨its, rv, p', hz⟩ := I1.list hq
      refine call_enumerate_list p'.isList fun h' he hit hsz hk => wpAny_pyIter_enum he ?_
      have I2 : Inv X pins σ H1 { s1 with heap := h' } := I1.kept (t' := s1.toks) hk
      exact ⟨s1.heap.objs.size + 1, [s1.heap.objs.size + 1, s1.heap.objs.size], _, _, H1, rfl, I2, turn_enum a (s1.heap.objs.size + 1) s1.heap.objs.size, ⟨⟨.none, he⟩, hit, Nat.succ_ne_self _⟩, fun b hb => new b (by simpa using hb), q⟩
    · obtain ⟨its, rv, p', hz⟩ := I1.tuple hq
      refine call_enumT (show s1.heap.IsTuple a its.toArray from p') fun h' he hit hsz hk => wpAny_pyIter_enum he ?_
      have I2 : Inv X pins σ H1 { s1 with heap := h' } := I1.kept (t' := s1.toks) hk
      exact ⟨s1.heap.objs.size + 1, [s1.heap.objs.size + 1, s1.heap.objs.size], _, _, H1, rfl, I2, turn_enumT a (s1.heap.objs.size + 1) s1.heap.objs.size, ⟨⟨.none, he⟩, hit, Nat.succ_ne_self _⟩, fun b hb => new b (by simpa using hb), q⟩
end RfE
set_option maxHeartbeats 2000000
namespace Rf
open PySem PySem.Spec PyProof.Rows L2

/-! ### instances with slots: read, stored -/
section
variable {g : Gs} {m : List Addr} {H : Hp} {h : List Ob} {n d c : Nat} {vs : List (Option Uv)} {v : V}
theorem HR.sltS (x : HR g m H h) (hv : VR g m H (.obj n) v) (e : h[n]? = some (.ins n d c true vs)) (e2 : h[d]? = some (.dxo true)) :
    ∃ (a dx : Addr) (ws : List (Option V)), v = .ref a ∧ m[n]? = some a ∧ m[d]? = some dx ∧ SlX.Slt H a (g.cl c) dx ws ∧ VRo g m H vs ws := by
  obtain ⟨a, ho, rfl, ea, eH, y, dx, ws, e3, e4, rfl, r⟩ := x.get hv e
  rw [ea] at e3; cases e3
  obtain ⟨dx', ho', e5, e6, e7⟩ := x.at_ d _ e2
  rw [e4] at e5; cases e5
  have e7 : ho' = .xd [] := e7
  subst e7
  exact ⟨a, dx, ws, rfl, ea, e4, .inr ⟨eH, e6⟩, r⟩
theorem HR.slt0 (x : HR g m H h) (hv : VR g m H (.obj n) v) (e : h[n]? = some (.ins n d c false vs)) :
    ∃ (a dx : Addr), v = .ref a ∧ m[n]? = some a ∧ m[d]? = some dx ∧ SlX.Slt H a (g.cl c) dx [] ∧ vs = [] := by
  obtain ⟨a, ho, rfl, ea, eH, dx, e4, rfl, r⟩ := x.get hv e
  exact ⟨a, dx, rfl, ea, e4, .inl ⟨eH, rfl⟩, r⟩
theorem insAt_ok {b : Nat × Nat × List (Option Uv)} (x : HR g m H h) (hv : VR g m H (.obj n) v) (e : insAt n h = some b) :
    ∃ (a dx : Addr) (ws : List (Option V)) (st sd : Bool), v = .ref a ∧ m[n]? = some a ∧ m[b.1]? = some dx ∧ h[n]? = some (.ins n b.1 b.2.1 st b.2.2) ∧ h[b.1]? = some (.dxo sd) ∧ SlX.Slt H a (g.cl b.2.1) dx ws ∧ VRo g m H b.2.2 ws := by
  unfold insAt at e
  split at e
  · rename_i i d c st vs e1
    cases st with
    | true =>
      simp only at e
      split at e
      · rename_i e2
        split at e
        · rename_i hi
          cases e
          subst hi
          obtain ⟨a, dx, ws, h1, h2, h3, h4, h5⟩ := x.sltS hv e1 e2
          exact ⟨a, dx, ws, true, true, h1, h2, h3, e1, e2, h4, h5⟩
        · cases e
      · cases e
    | false =>
      simp only at e
      split at e
      · rename_i sd e2
        split at e
        · rename_i hi
          cases e
          subst hi
          obtain ⟨a, dx, h1, h2, h3, h4, h5⟩ := x.slt0 hv e1
          subst h5
          exact ⟨a, dx, [], false, sd, h1, h2, h3, e1, e2, h4, rfl⟩
        · cases e
      · cases e
  · cases e
/-- behind a store -/
theorem slt_store {a dx : Addr} {ws : List (Option V)} {st sd : Bool} {i : Nat} {u : Uv} {y : V} (x : HR g m H h) (ea : m[n]? = some a) (ed : m[d]? = some dx) (e : h[n]? = some (.ins n d c st vs)) (e2 : h[d]? = some (.dxo sd))
    (r : VRo g m H vs ws) (ru : VR g m H u y) : Le g m H m (SlX.slH H a (g.cl c) dx (SlX.putS i y ws)) ∧ HR g m (SlX.slH H a (g.cl c) dx (SlX.putS i y ws)) ((h.set d (.dxo true)).set n (.ins n d c true (putU i u vs))) := by
  have nd : d ≠ n := fun z => by rw [z, e] at e2; cases e2
  have l1 : Le g m H m (upd H dx (.xd [])) := Le.set x ed e2
  have x1 : HR g m (upd H dx (.xd [])) (h.set d (.dxo true)) := x.set ed e2 (show OR g m H (.dxo true) (.xd []) from rfl)
  have e3 : (h.set d (.dxo true))[n]? = some (.ins n d c st vs) := by rw [List.getElem?_set_ne nd]; exact e
  have ho : OR g m (upd H dx (.xd [])) (.ins n d c true (putU i u vs)) (SlX.SlO a (g.cl c) dx (SlX.putS i y ws)) := ⟨a, dx, _, ea, ed, rfl, VRo.tr (List.prefix_refl _) l1.sq _ _ (VRo.put ru i r)⟩
  exact ⟨l1.trans (Le.set x1 ea e3), x1.set ea e3 ho⟩
/-- made -/
theorem slt_new {a dx : Addr} (x : HR g m H h) (ha : H a = none) (hd : H dx = none) (ne : dx ≠ a) :
    Le g m H (m ++ [dx] ++ [a]) (upd (upd H dx (.own a)) a (.ins (g.cl c) dx [])) ∧ HR g (m ++ [dx] ++ [a]) (upd (upd H dx (.own a)) a (.ins (g.cl c) dx [])) (h ++ [.dxo false] ++ [.ins (h.length + 1) h.length c false []]) ∧
    VR g (m ++ [dx] ++ [a]) (upd (upd H dx (.own a)) a (.ins (g.cl c) dx [])) (.obj (h.length + 1)) (.ref a) := by
  have l1 : Le g m H (m ++ [dx]) (upd H dx (.own a)) := Le.alloc x hd
  have x1 : HR g (m ++ [dx]) (upd H dx (.own a)) (h ++ [.dxo false]) := x.alloc hd (show OR g m H (.dxo false) (.own a) from ⟨a, rfl⟩)
  have ha1 : upd H dx (.own a) a = none := by rw [upd_ne (Ne.symm ne)]; exact ha
  have e1 : (m ++ [dx])[h.length]? = some dx := by rw [x.len, List.getElem?_append_right (Nat.le_refl _), Nat.sub_self] <;> rfl
  refine ⟨l1.trans (Le.alloc x1 ha1), x1.alloc ha1 ⟨dx, e1, rfl, rfl⟩, a, rfl, ?_⟩
  have hl : h.length + 1 = (m ++ [dx]).length := by rw [List.length_append, x.len] <;> rfl
  rw [hl, List.getElem?_append_right (Nat.le_refl _), Nat.sub_self] <;> rfl
end
end Rf
set_option maxHeartbeats 4000000
namespace Rf
open PySem PySem.Spec PyProof.Rows L2
open Builtin.SmallTypes (ownedTupleIsFree ownedTupleHandOut nextOf)
/-! ### zip whose pairs are kept by a name: the tuple that was handed out last may be there or gone -/
abbrev ZpAt (h : Heap) (z p o : Addr) (v : Value) (f : Bool) : Prop := h.get? z = some ⟨.type "zip", none, .fields #[v, .bool f, .bool false, .ref p, .ref o], #[]⟩
def Loose (h : Heap) (v : Value) : Prop := v = .none ∨ ∃ t : Addr, v = rawInt t ∧ h.get? t = none
/-- an iterator of a list, of a tuple; what it goes over -/
def SIt (t : Bool) (h : Heap) (i l : Addr) (n : Nat) : Prop := match t with
  | false => h.IsListIter i l n
  | true => h.IsTupleIter i l n
def SSr (t : Bool) (h : Heap) (l : Addr) (xs : Array Value) : Prop := match t with
  | false => h.IsList l xs
  | true => h.IsTuple l xs
theorem SIt.there {t : Bool} {h : Heap} {i l : Addr} {n : Nat} (x : SIt t h i l n) : ∃ o vs, h.get? i = some o ∧ o.data = .fields vs := by
  cases t with
  | false => obtain ⟨o, e, _, d⟩ := x; exact ⟨o, _, e, d⟩
  | true => obtain ⟨o, e, _, d⟩ := x; exact ⟨o, _, e, d⟩
theorem SIt.at {t : Bool} {h h' : Heap} {i l : Addr} {n : Nat} (x : SIt t h i l n) (k : ∀ o, h.get? i = some o → h'.get? i = some o) : SIt t h' i l n := by
  cases t with
  | false => obtain ⟨o, e, r⟩ := x; exact ⟨o, k o e, r⟩
  | true => obtain ⟨o, e, r⟩ := x; exact ⟨o, k o e, r⟩
theorem SIt.extBut {t : Bool} {h h' : Heap} {i l a : Addr} {n : Nat} (x : SIt t h i l n) (k : Heap.ExtBut a h h') (ne : i ≠ a) : SIt t h' i l n := x.at fun o e => k i o ne e
theorem SSr.extBut {t : Bool} {h h' : Heap} {l a : Addr} {xs : Array Value} (x : SSr t h l xs) (k : Heap.ExtBut a h h') (ne : l ≠ a) : SSr t h' l xs := by
  cases t with
  | false => obtain ⟨o, e, r⟩ := x; exact ⟨o, k l o ne e, r⟩
  | true => obtain ⟨o, e, r⟩ := x; exact ⟨o, k l o ne e, r⟩
section
variable {P : Program} {w : World} {A : Around} {E : Value → Shared → Prop} {s : Shared} {z p o i j l m : Addr} {v a b x y : Value} {f t1 t2 : Bool} {n k : Nat} {xs ys : Array Value}
theorem src_item {t : Bool} {Q : Value → Shared → Prop} (hi : SIt t s.heap i l n) (hl : SSr t s.heap l xs) (ex : xs[n]? = some x) (q : ∀ g, SIt t g i l (n + 1) → Heap.SameBut i s.heap g → Q x { s with heap := g }) : wpAny (model P w) A (nextOf (.ref i)) Q E s := by
  cases t with
  | false => exact wpAny_nextOf_list_item hi hl ex q
  | true => exact RZ.nextOf_tuple_item hi hl ex q
theorem src_end {t : Bool} {Q : Value → Shared → Prop} (hh : A.handled = none) (hi : SIt t s.heap i l n) (hl : SSr t s.heap l xs) (ex : xs[n]? = none) (q : ∀ g e, Heap.ExtBut i s.heap g → (∃ u, g.get? e = some u ∧ u.cls = .type "StopIteration") → E (.ref e) { s with heap := g }) : wpAny (model P w) A (nextOf (.ref i)) Q E s := by
  cases t with
  | false => exact wpAny_nextOf_list_end hh hi hl ex q
  | true => exact RZ.nextOf_tuple_end hh hi hl ex q
theorem zp_free {Q : Bool → Shared → Prop} (hz : ZpAt s.heap z p o v f) (hv : Loose s.heap v) (q : Q true s) : wpAny (model P w) A (ownedTupleIsFree (.ref z)) Q E s := by
  unfold ownedTupleIsFree
  rcases hv with rfl | ⟨t, rfl, ht⟩
  · exact wpAny_bind (wpAny_field hz rfl (x := .none) rfl (wpAny_pure q))
  · refine wpAny_bind (wpAny_field hz rfl (x := rawInt t) rfl ?_)
    show wpAny _ _ (loadIfAlive ((t : Int).toNat) >>= _) _ _ _
    rw [Int.toNat_natCast]
    refine wpAny_bind (show wpAny _ _ (loadIfAlive t) _ _ _ from ?_)
    have go : ∀ R : Option Obj → Shared → Prop, R none s → wpAny (model P w) A (loadIfAlive t) R E s := fun R r => by
      have r : R (s.heap.get? t) s := by rw [ht]; exact r
      exact fun _ _ _ => r
    exact go _ (wpAny_pure q)
/-- its next pair, where the last one is gone -/
theorem zp_item {Q : Value → Shared → Prop} (D : ZipApart z p o i j l m) (hz : ZpAt s.heap z p o v f) (hv : Loose s.heap v) (hp : IsPair s.heap p (.ref i) (.ref j)) (ho : IsPair s.heap o a b)
    (hi : SIt t1 s.heap i l n) (hj : SIt t2 s.heap j m k) (hl : SSr t1 s.heap l xs) (hm : SSr t2 s.heap m ys) (ex : xs[n]? = some x) (ey : ys[k]? = some y)
    (q : ∀ g, ZpAt g z p o (rawInt s.heap.objs.size) false → IsPair g o x y → SIt t1 g i l (n + 1) → SIt t2 g j m (k + 1) → IsPair g s.heap.objs.size x y → g.objs.size = s.heap.objs.size + 1 →
      (∀ c u, c ≠ z → c ≠ o → c ≠ i → c ≠ j → s.heap.get? c = some u → g.get? c = some u) → Q (.ref s.heap.objs.size) { s with heap := g }) :
    wpAny (model P w) A (Builtin.«zip.__next__» ⟨[.ref z], []⟩) (fun r t => ∃ u, r = .done (.ret u) ∧ Q u t) E s := by
  show wpAny _ A (field (.ref z) 2 >>= _) _ _ s
  refine wpAny_bind (wpAny_field hz rfl (x := .bool false) rfl (show wpAny _ A (field (.ref z) 3 >>= _) _ _ s from wpAny_bind (wpAny_field hz rfl (x := .ref p) rfl (wpAny_bind (wpAny_seqItems hp rfl ?_)))))
  show wpAny _ A (ownedTupleIsFree (.ref z) >>= _) _ _ s
  refine wpAny_bind (zp_free hz hv ?_)
  simp only [if_true]
  refine wpAny_bind (wpAny_rule (wpAny_bind (wpAny_field hz rfl (x := .ref o) rfl (wpAny_bind (wpAny_setField_rec hz (by simp) fun g1 z1 k1 => wpAny_bind ?_)))))
  have z1 : ZpAt g1 z p o .ellipsis f := z1
  simp only [List.zipIdx_cons, List.forIn_cons, List.zipIdx_nil, List.forIn_nil]
  refine wpAny_bind (wpAny_bind (wpAny_onRaise (show wpAny _ A (nextOf (.ref i) >>= _) _ _ _ from wpAny_bind (src_item (hi.extBut k1.extBut D.i1z) (hl.extBut k1.extBut D.l1z) ex fun g2 i2 k2 => wpAny_pure ?_))))
  have o2 : IsPair g2 o a b := k2.extBut o _ D.TOi1 (k1.extBut o _ D.TOz ho)
  refine wpAny_bind (wpAny_seqItems o2 rfl (wpAny_bind (wpAny_updateSeq_pair o2 fun g3 o3 k3 => wpAny_bind (wpAny_letGo (wpAny_pure ?_)))))
  have o3 : IsPair g3 o x b := o3
  have j3 := ((hj.extBut k1.extBut D.i2z).extBut k2.extBut D.i12.symm).extBut k3.extBut D.TOi2.symm
  have m3 := ((hm.extBut k1.extBut D.l2z).extBut k2.extBut D.l2i1).extBut k3.extBut D.l2TO
  refine wpAny_bind (wpAny_bind (wpAny_onRaise (show wpAny _ A (nextOf (.ref j) >>= _) _ _ _ from wpAny_bind (src_item j3 m3 ey fun g4 j4 k4 => wpAny_pure ?_))))
  have o4 : IsPair g4 o x b := k4.extBut o _ D.TOi2 o3
  refine wpAny_bind (wpAny_seqItems o4 rfl (wpAny_bind (wpAny_updateSeq_pair o4 fun g5 o5 k5 => wpAny_bind (wpAny_letGo (wpAny_pure (wpAny_pure ?_))))))
  have o5 : IsPair g5 o x y := o5
  have size5 : g5.objs.size = s.heap.objs.size := k5.1.trans (k4.1.trans (k3.1.trans (k2.1.trans k1.1)))
  have z5 : ZpAt g5 z p o .ellipsis f := k5.extBut z _ D.TOz.symm (k4.extBut z _ D.i2z.symm (k3.extBut z _ D.TOz.symm (k2.extBut z _ D.i1z.symm z1)))
  have rest5 : ∀ c u, c ≠ z → c ≠ o → c ≠ i → c ≠ j → s.heap.get? c = some u → g5.get? c = some u := fun c u n1 n2 n3 n4 e => k5.extBut c u n2 (k4.extBut c u n4 (k3.extBut c u n2 (k2.extBut c u n3 (k1.extBut c u n1 e))))
  have i5 : SIt t1 g5 i l (n + 1) := ((i2.extBut k3.extBut D.TOi1.symm).extBut k4.extBut D.i12).extBut k5.extBut D.TOi1.symm
  have j5 : SIt t2 g5 j m (k + 1) := j4.extBut k5.extBut D.TOi2.symm
  have zl : z < g5.objs.size := Heap.lt_size z5
  refine wpAny_bind (wpAny_seqItems o5 rfl (wpAny_bind (wpAny_newTuple ?_)))
  show wpAny _ A (ownedTupleHandOut (.ref z) (.ref g5.objs.size) >>= _) _ _ _
  refine wpAny_bind ?_
  unfold ownedTupleHandOut
  have z6 : ZpAt (g5.push { cls := .type "tuple", data := .seq #[x, y] }) z p o .ellipsis f := Heap.get?_push_of_some _ z5
  refine wpAny_bind (wpAny_setField_rec z6 (by simp) fun g7 z7 k7 => ?_)
  have z7 : ZpAt g7 z p o (rawInt g5.objs.size) f := z7
  refine wpAny_setField_rec z7 (by simp) fun g8 z8 k8 => ?_
  have z8 : ZpAt g8 z p o (rawInt g5.objs.size) false := z8
  have on : ∀ c u, c ≠ z → g5.get? c = some u → g8.get? c = some u := fun c u n1 e => k8.extBut c u n1 (k7.extBut c u n1 (Heap.get?_push_of_some _ e))
  have t8 : IsPair g8 g5.objs.size x y := k8.extBut _ _ (Nat.ne_of_gt zl) (k7.extBut _ _ (Nat.ne_of_gt zl) (Heap.get?_push_size _ rfl))
  have size8 : g8.objs.size = g5.objs.size + 1 := k8.1.trans (k7.1.trans (Heap.size_push ..))
  rw [size5] at z8 t8 size8
  refine wpAny_pure ⟨_, rfl, ?_⟩
  show Q (.ref g5.objs.size) _
  rw [size5]
  exact q g8 z8 (on o _ D.TOz o5) (i5.at fun u e => on i u D.i1z e) (j5.at fun u e => on j u D.i2z e) t8 size8 fun c u n1 n2 n3 n4 e => on c u n1 (rest5 c u n1 n2 n3 n4 e)
theorem zp_end {Q : Fin → Shared → Prop} (hh : A.handled = none) (D : ZipApart z p o i j l m) (hz : ZpAt s.heap z p o v f) (hv : Loose s.heap v) (hp : IsPair s.heap p (.ref i) (.ref j)) (ho : IsPair s.heap o a b)
    (hi : SIt t1 s.heap i l n) (hj : SIt t2 s.heap j m k) (hl : SSr t1 s.heap l xs) (hm : SSr t2 s.heap m ys) (over : xs[n]? = none ∨ ys[k]? = none)
    (q : ∀ g e, (∀ c u, c ≠ z → c ≠ o → c ≠ i → c ≠ j → s.heap.get? c = some u → g.get? c = some u) → (∃ u, g.get? e = some u ∧ u.cls = .type "StopIteration") → E (.ref e) { s with heap := g }) :
    wpAny (model P w) A (Builtin.«zip.__next__» ⟨[.ref z], []⟩) Q E s := by
  show wpAny _ A (field (.ref z) 2 >>= _) _ _ s
  refine wpAny_bind (wpAny_field hz rfl (x := .bool false) rfl (show wpAny _ A (field (.ref z) 3 >>= _) _ _ s from wpAny_bind (wpAny_field hz rfl (x := .ref p) rfl (wpAny_bind (wpAny_seqItems hp rfl ?_)))))
  show wpAny _ A (ownedTupleIsFree (.ref z) >>= _) _ _ s
  refine wpAny_bind (zp_free hz hv ?_)
  simp only [if_true]
  refine wpAny_bind (wpAny_rule (wpAny_bind (wpAny_field hz rfl (x := .ref o) rfl (wpAny_bind (wpAny_setField_rec hz (by simp) fun g1 z1 k1 => wpAny_bind ?_)))))
  have z1 : ZpAt g1 z p o .ellipsis f := z1
  simp only [List.zipIdx_cons, List.forIn_cons, List.zipIdx_nil, List.forIn_nil]
  cases ex : xs[n]? with
  | none =>
    refine wpAny_bind (wpAny_bind (wpAny_onRaise (show wpAny _ A (nextOf (.ref i) >>= _) _ _ _ from wpAny_bind (src_end hh (hi.extBut k1.extBut D.i1z) (hl.extBut k1.extBut D.l1z) ex fun g2 e k2 he => ?_))))
    obtain ⟨u, hu, hc⟩ := he
    have z2 : ZpAt g2 z p o .ellipsis f := k2 _ _ D.i1z.symm z1
    have far : e ≠ z := fun t => by subst t; rw [z2] at hu; cases hu; simp at hc
    exact wpAny_setField_rec z2 (by simp) fun g3 _ k3 => q g3 e (fun c u' n1 _ n3 _ t => k3.extBut c u' n1 (k2 c u' n3 (k1.extBut c u' n1 t))) ⟨u, k3.extBut e u far hu, hc⟩
  | some x =>
    have ey : ys[k]? = none := over.elim (fun t => by rw [ex] at t; cases t) id
    refine wpAny_bind (wpAny_bind (wpAny_onRaise (show wpAny _ A (nextOf (.ref i) >>= _) _ _ _ from wpAny_bind (src_item (hi.extBut k1.extBut D.i1z) (hl.extBut k1.extBut D.l1z) ex fun g2 i2 k2 => wpAny_pure ?_))))
    have o2 : IsPair g2 o a b := k2.extBut o _ D.TOi1 (k1.extBut o _ D.TOz ho)
    refine wpAny_bind (wpAny_seqItems o2 rfl (wpAny_bind (wpAny_updateSeq_pair o2 fun g3 o3 k3 => wpAny_bind (wpAny_letGo (wpAny_pure ?_)))))
    have j3 := ((hj.extBut k1.extBut D.i2z).extBut k2.extBut D.i12.symm).extBut k3.extBut D.TOi2.symm
    have m3 := ((hm.extBut k1.extBut D.l2z).extBut k2.extBut D.l2i1).extBut k3.extBut D.l2TO
    refine wpAny_bind (wpAny_bind (wpAny_onRaise (show wpAny _ A (nextOf (.ref j) >>= _) _ _ _ from wpAny_bind (src_end hh j3 m3 ey fun g4 e k4 he => ?_))))
    obtain ⟨u, hu, hc⟩ := he
    have z4 : ZpAt g4 z p o .ellipsis f := k4 _ _ D.i2z.symm (k3.extBut z _ D.TOz.symm (k2.extBut z _ D.i1z.symm z1))
    have far : e ≠ z := fun t => by subst t; rw [z4] at hu; cases hu; simp at hc
    exact wpAny_setField_rec z4 (by simp) fun g5 _ k5 => q g5 e (fun c u' n1 n2 n3 n4 t => k5.extBut c u' n1 (k4 c u' n4 (k3.extBut c u' n2 (k2.extBut c u' n3 (k1.extBut c u' n1 t))))) ⟨u, k5.extBut e u far hu, hc⟩
/-- the next pair, whether the last one is there or gone -/
theorem zp_next {Q : Option Value → Shared → Prop} (D : ZipApart z p o i j l m) (hz : ZpAt s.heap z p o v f) (hv : v = .none ∨ ∃ t : Addr, v = rawInt t) (hp : IsPair s.heap p (.ref i) (.ref j)) (ho : IsPair s.heap o a b)
    (hi : s.heap.IsListIter i l n) (hj : s.heap.IsListIter j m k) (hl : s.heap.IsList l xs) (hm : s.heap.IsList m ys) (ex : xs[n]? = some x) (ey : ys[k]? = some y)
    (q : ∀ (g : Heap) (v' : Value) (f' : Bool), ZpAt g z p o v' f' → (v' = .none ∨ ∃ t : Addr, v' = rawInt t) → (∃ a' b', IsPair g o a' b') → g.IsListIter i l (n + 1) → g.IsListIter j m (k + 1) → IsPair g s.heap.objs.size x y → g.objs.size = s.heap.objs.size + 1 →
      (∀ c u, c ≠ z → c ≠ o → c ≠ i → c ≠ j → s.heap.get? c = some u → g.get? c = some u) → Q (some (.ref s.heap.objs.size)) { s with heap := g }) : wpAny (model P w) A (pyNext (.ref z)) Q E s := by
  have ty : s.TypeIs (.ref z) "zip" := ⟨_, hz, rfl⟩
  have gone : Loose s.heap v → wpAny (model P w) A (pyNext (.ref z)) Q E s := fun lo => by
    unfold pyNext
    exact wpAny_bind (wpAny_attempt (wpAny_callSpecial?_slot (name := Str.ofString "__next__") ty F.slot_zip_next (wpAny_call_entry F.slot_zip_next ty F.entry_zip_next
      (zp_item (t1 := false) (t2 := false) D hz lo hp ho hi hj hl hm ex ey fun g b1 b2 b3 b4 b5 b6 b7 => wpAny_pure (q g _ _ b1 (.inr ⟨_, rfl⟩) ⟨_, _, b2⟩ b3 b4 b5 b6 b7)) (F.args_zip_next_1 _))))
  rcases hv with rfl | ⟨t, rfl⟩
  · exact gone (.inl rfl)
  · cases e : s.heap.get? t with
    | none => exact gone (.inr ⟨t, rfl, e⟩)
    | some u =>
      exact wpAny_pyNext_zip_item_held D hz e hp hi hj hl hm ex ey fun g b1 b2 b3 b4 b5 b6 =>
        q g _ _ b1 (.inr ⟨t, rfl⟩) ⟨a, b, b6 o _ D.TOz D.TOi1 D.TOi2 ho⟩ b2 b3 b4 b5 fun c u n1 _ n3 n4 => b6 c u n1 n3 n4
theorem zp_over {Q : Option Value → Shared → Prop} (hh : A.handled = none) (D : ZipApart z p o i j l m) (hz : ZpAt s.heap z p o v f) (hv : v = .none ∨ ∃ t : Addr, v = rawInt t) (hp : IsPair s.heap p (.ref i) (.ref j)) (ho : IsPair s.heap o a b)
    (hi : s.heap.IsListIter i l n) (hj : s.heap.IsListIter j m k) (hl : s.heap.IsList l xs) (hm : s.heap.IsList m ys) (over : xs[n]? = none ∨ ys[k]? = none)
    (q : ∀ g : Heap, (∀ c u, c ≠ z → c ≠ o → c ≠ i → c ≠ j → s.heap.get? c = some u → g.get? c = some u) → Q none { s with heap := g }) : wpAny (model P w) A (pyNext (.ref z)) Q E s := by
  have ty : s.TypeIs (.ref z) "zip" := ⟨_, hz, rfl⟩
  have gone : Loose s.heap v → wpAny (model P w) A (pyNext (.ref z)) Q E s := fun lo => by
    unfold pyNext
    refine wpAny_bind (wpAny_attempt (wpAny_callSpecial?_slot (name := Str.ofString "__next__") ty F.slot_zip_next (wpAny_call_entry F.slot_zip_next ty F.entry_zip_next (zp_end (t1 := false) (t2 := false) hh D hz lo hp ho hi hj hl hm over fun g e b1 b2 => ?_) (F.args_zip_next_1 _))))
    obtain ⟨u, hu, hc⟩ := b2
    exact wpAny_bind (wpAny_isInstance (T := "StopIteration") (b := true) ⟨u, hu, hc⟩ isSubtype_stop (wpAny_pure (q g b1)))
  rcases hv with rfl | ⟨t, rfl⟩
  · exact gone (.inl rfl)
  · cases e : s.heap.get? t with
    | none => exact gone (.inr ⟨t, rfl, e⟩)
    | some u => exact wpAny_pyNext_zip_end_held hh D hz e hp hi hj hl hm over fun g b1 => q g fun c u n1 _ n3 n4 => b1 c u n1 n3 n4
end
/-- the turns of zip(..) over a plain name -/
theorem turn_zipN {P : Program} {w : World} {K : PySem.W.Frag} {nm : Str} {np : Pos} {a b z p o i j : Addr} (D : ZipApart z p o i j a b) :
    Turn P w K (.Name nm np) (Itz K a b) [z, p, o, i, j] z (fun n h => (∃ v f, ZpAt h z p o v f ∧ (v = .none ∨ ∃ t : Addr, v = rawInt t)) ∧ IsPair h p (.ref i) (.ref j) ∧ (∃ x y, IsPair h o x y) ∧ h.IsListIter i a n ∧ h.IsListIter j b n) where
  mem := List.mem_cons_self
  obj := fun n h st c hc => by
    obtain ⟨⟨v, f, hz, _⟩, hp, ⟨x, y, ho⟩, ⟨o1, e1, _, d1⟩, ⟨o2, e2, _, d2⟩⟩ := st
    simp only [List.mem_cons, List.not_mem_nil, or_false] at hc
    rcases hc with rfl | rfl | rfl | rfl | rfl
    · exact ⟨_, hz, fun v q => nomatch q⟩
    · exact ⟨_, hp, fun v q => nomatch q⟩
    · exact ⟨_, ho, fun v q => nomatch q⟩
    · exact ⟨o1, e1, fun v q => by rw [d1] at q; cases q⟩
    · exact ⟨o2, e2, fun v q => by rw [d2] at q; cases q⟩
  keep := fun n h h' st k => by
    obtain ⟨⟨v, f, hz, hv⟩, hp, ⟨x, y, ho⟩, h1, h2⟩ := st
    exact ⟨⟨v, f, k z (by simp) _ hz, hv⟩, k p (by simp) _ hp, ⟨x, y, k o (by simp) _ ho⟩, h1.at fun u e => k i (by simp) u e, h2.at fun u e => k j (by simp) u e⟩
  item := by
    intro X hP hw hK hc n pins s σ H E I hf st hg
    subst hP hw hK
    obtain ⟨⟨v, f, hz, hv⟩, hp, ⟨x0, y0, ho⟩, h1, h2⟩ := st
    obtain ⟨xs, ys, x, y, hqx, hqy, hx, hy⟩ := hg
    obtain ⟨its, rv, p1, _⟩ := I.list hqx
    obtain ⟨its2, rv2, p2, _⟩ := I.list hqy
    obtain ⟨u, hu, ru⟩ := rv.get hx
    obtain ⟨u2, hu2, ru2⟩ := rv2.get hy
    refine zp_next D hz hv hp ho h1 h2 p1.isList p2.isList (x := u) (y := u2) (by simpa using hu) (by simpa using hu2) fun g v' f' z' vv oo i' j' t' size' keep' => ?_
    refine ⟨_, rfl, ?_⟩
    show wpAny _ _ (pure ()) _ _ _
    refine wpAny_pure ?_
    have new : ObjOk X.prog X.w (upd H s.heap.objs.size (.tup [x, y])) g s.heap.objs.size (.tup [x, y]) := ⟨by show 2 ≤ sizeLine; decide, [u, u2], .cons ru (.cons ru2 .nil), ⟨_, t', rfl, _, rfl⟩⟩
    have I1 : Inv X pins σ (upd H s.heap.objs.size (.tup [x, y])) { s with heap := g } :=
      I.turnedNew (t' := s.toks) (ch := [z, p, o, i, j]) (fun c u' hb q => keep' c u' (fun t => hb (by simp [t])) (fun t => hb (by simp [t])) (fun t => hb (by simp [t])) (fun t => hb (by simp [t])) q) hf (Nat.le_refl _) new
    refine ⟨.ref s.heap.objs.size, _, I1, rfl, ⟨_, x, y, rfl, I.hok.fresh (Nat.le_refl _), rfl, fun l hl => by rw [I.list_inj hl hqx]; exact hx, fun l hl => by rw [I.list_inj hl hqy]; exact hy⟩, ⟨⟨v', f', z', vv⟩, keep' p _ D.TIz D.TITO D.TIi1 D.TIi2 hp, oo, i', j'⟩, fun c hcm => ?_⟩
    have hlt : c < s.heap.objs.size := by
      simp only [List.mem_cons, List.not_mem_nil, or_false] at hcm
      rcases hcm with rfl | rfl | rfl | rfl | rfl
      · exact Heap.lt_size hz
      · exact Heap.lt_size hp
      · exact Heap.lt_size ho
      · obtain ⟨_, e1, _⟩ := h1; exact Heap.lt_size e1
      · obtain ⟨_, e2, _⟩ := h2; exact Heap.lt_size e2
    rw [upd_ne (Nat.ne_of_lt hlt)]
    exact (hf c hcm).1
  done := by
    intro X hP hw hK hc n pins s σ H E I hf st hg
    subst hP hw hK
    obtain ⟨⟨v, f, hz, hv⟩, hp, ⟨x0, y0, ho⟩, h1, h2⟩ := st
    obtain ⟨xs, ys, hqx, hqy, hend⟩ := hg
    obtain ⟨its, rv, p1, _⟩ := I.list hqx
    obtain ⟨its2, rv2, p2, _⟩ := I.list hqy
    have l1 := rv.length
    have l2 := rv2.length
    refine zp_over (I.ok.hd hc) D hz hv hp ho h1 h2 p1.isList p2.isList (hend.imp (fun q => by simp; omega) fun q => by simp; omega) fun g keep' => ⟨rfl, I.turnedL (t' := s.toks) (ch := [z, p, o, i, j]) (fun c u' hb q =>
      keep' c u' (fun t => hb (by simp [t])) (fun t => hb (by simp [t])) (fun t => hb (by simp [t])) (fun t => hb (by simp [t])) q) hf⟩
  self := fun A n s Q E st h => by
    obtain ⟨⟨v, f, hz, _⟩, _⟩ := st
    have ty : s.TypeIs (.ref z) "zip" := ⟨_, hz, rfl⟩
    refine wpAny_pyIter_slot ty F.slot_zip_iter (wpAny_call_entry F.slot_zip_iter ty F.entry_zip_iter ?_ (F.args_zip_iter_1 _))
    show wpAny _ _ (ret (.ref z)) _ _ s
    exact wpAny_pure ⟨_, rfl, "zip", _, ty, F.slot_zip_next.lookup, h⟩
theorem pi_zipN {X : Cx} {e e2 : Expr} {ta : TA} {pn pos np : Pos} {nm : Str} (hg : Gl X "zip") (hm : X.mg "zip" = none) (ha : PA X [e, e2] ta)
    (hs : starEach [e, e2] X.env = (false, eval e X.env) :: starEach [e2] X.env := by rfl) (hpl : (backTo pos (starEach [e2] X.env)).any (·.1) = false := by rfl) :
    PI X (.Name nm np) (.Call (.Name "zip" pn) [e, e2] [] pos) (iZip X.K ta) := by
  refine ⟨fun pins s σ H R I h => Call_ (ld_blt I hg hm PyProof.Rows.boot_zip (PyProof.Rows.callWith_type1 (thn (ha.run pos pins s σ H _ I h) fun us s1 ⟨vs, H1, I1, r1, q1⟩ => ?_) hs hpl))⟩
  obtain ⟨a, b, xs, ys, rfl, hqx, hqy, q⟩ := q1
  cases r1 with
  | cons r rr => cases rr with
    | cons r' rr =>
      cases rr
      cases r
      cases r'
      obtain ⟨its, rv, p1, _⟩ := I1.list hqx
      obtain ⟨its2, rv2, p2, _⟩ := I1.list hqy
      refine call_zip_2 p1.isList p2.isList fun g hz hTI hTO h1 h2 hsz hk => wpAny_pyIter_zip hz ?_
      have I2 : Inv X pins σ H1 { s1 with heap := g } := I1.kept (t' := s1.toks) hk
      refine ⟨s1.heap.objs.size + 4, [s1.heap.objs.size + 4, s1.heap.objs.size + 2, s1.heap.objs.size + 3, s1.heap.objs.size, s1.heap.objs.size + 1], _, _, H1, rfl, I2, turn_zipN (PySem.W.ktu_apart s1.heap.objs.size a b p1.lt p2.lt), ⟨⟨_, _, hz, .inl rfl⟩, hTI, ⟨_, _, hTO⟩, h1, h2⟩, fun c hcm => ?_, q⟩
      have hle : s1.heap.objs.size ≤ c := by
        simp only [List.mem_cons, List.not_mem_nil, or_false] at hcm
        rcases hcm with rfl | rfl | rfl | rfl | rfl <;> first | exact Nat.le_add_right _ _ | exact Nat.le_refl _
      exact I1.fpOk hle (I1.hok.fresh hle)
/-! ### zip of a list and a tuple -/
def SqA (t : Bool) (K : PySem.W.Frag) (H : Hp) (a : Addr) (xs : List V) : Prop := match t with
  | false => SqL K H a xs
  | true => SqT K H a xs
theorem sqA_src {X : Cx} {pins : List (Addr × Obj)} {σ : L2.St} {H : Hp} {s : Shared} {t : Bool} {a : Addr} {xs : List V} (I : Inv X pins σ H s) (h : SqA t X.K H a xs) : ∃ its, Vals xs its ∧ SSr t s.heap a its.toArray ∧ a < s.heap.objs.size := by
  cases t with
  | false => obtain ⟨its, rv, p, _⟩ := I.list h; exact ⟨its, rv, p.isList, p.lt⟩
  | true =>
    obtain ⟨its, rv, p, _⟩ := I.tuple h
    obtain ⟨o, ho, _⟩ := id p
    exact ⟨its, rv, p, Heap.lt_size ho⟩
theorem sqA_inj {X : Cx} {pins : List (Addr × Obj)} {σ : L2.St} {H : Hp} {s : Shared} {t : Bool} {a : Addr} {xs ys : List V} (I : Inv X pins σ H s) (h : SqA t X.K H a xs) (h2 : SqA t X.K H a ys) : xs = ys := by
  cases t with
  | false => exact I.list_inj h h2
  | true => exact I.tuple_inj h h2
def ItzM (t1 t2 : Bool) (K : PySem.W.Frag) (a b : Addr) : It :=
  ⟨fun i H => ∃ (xs ys : List V) (x y : V), SqA t1 K H a xs ∧ SqA t2 K H b ys ∧ xs[i]? = some x ∧ ys[i]? = some y,
    fun i H v H' => ∃ T x y, v = .ref T ∧ H T = none ∧ H' = upd H T (.tup [x, y]) ∧ (∀ xs, SqA t1 K H a xs → xs[i]? = some x) ∧ ∀ ys, SqA t2 K H b ys → ys[i]? = some y,
    fun i H => ∃ xs ys : List V, SqA t1 K H a xs ∧ SqA t2 K H b ys ∧ (xs.length ≤ i ∨ ys.length ≤ i)⟩
theorem turn_zipM {P : Program} {w : World} {K : PySem.W.Frag} {elts : List Expr} {kk : Nat} {np : Pos} {a b z p o i j : Addr} {t1 t2 : Bool} (D : ZipApart z p o i j a b) :
    Turn P w K (.Tuple elts kk np) (ItzM t1 t2 K a b) [z, p, o, i, j] z (fun n h => ZpAt h z p o .none false ∧ IsPair h p (.ref i) (.ref j) ∧ (∃ x y, IsPair h o x y) ∧ SIt t1 h i a n ∧ SIt t2 h j b n) where
  mem := List.mem_cons_self
  obj := fun n h st c hc => by
    obtain ⟨hz, hp, ⟨x, y, ho⟩, h1, h2⟩ := st
    obtain ⟨o1, w1, e1, d1⟩ := h1.there
    obtain ⟨o2, w2, e2, d2⟩ := h2.there
    simp only [List.mem_cons, List.not_mem_nil, or_false] at hc
    rcases hc with rfl | rfl | rfl | rfl | rfl
    · exact ⟨_, hz, fun v q => nomatch q⟩
    · exact ⟨_, hp, fun v q => nomatch q⟩
    · exact ⟨_, ho, fun v q => nomatch q⟩
    · exact ⟨o1, e1, fun v q => by rw [d1] at q; cases q⟩
    · exact ⟨o2, e2, fun v q => by rw [d2] at q; cases q⟩
  keep := fun n h h' st k => by
    obtain ⟨hz, hp, ⟨x, y, ho⟩, h1, h2⟩ := st
    exact ⟨k z (by simp) _ hz, k p (by simp) _ hp, ⟨x, y, k o (by simp) _ ho⟩, h1.at fun u e => k i (by simp) u e, h2.at fun u e => k j (by simp) u e⟩
  item := by
    intro X hP hw hK hc n pins s σ H E I hf st hg
    subst hP hw hK
    obtain ⟨hz, hp, ⟨x0, y0, ho⟩, h1, h2⟩ := st
    obtain ⟨xs, ys, x, y, hqx, hqy, hx, hy⟩ := hg
    obtain ⟨its, rv, p1, _⟩ := sqA_src I hqx
    obtain ⟨its2, rv2, p2, _⟩ := sqA_src I hqy
    obtain ⟨u, hu, ru⟩ := rv.get hx
    obtain ⟨u2, hu2, ru2⟩ := rv2.get hy
    have ty : s.TypeIs (.ref z) "zip" := ⟨_, hz, rfl⟩
    unfold pyNext
    refine wpAny_bind (wpAny_attempt (wpAny_callSpecial?_slot (name := Str.ofString "__next__") ty F.slot_zip_next (wpAny_call_entry F.slot_zip_next ty F.entry_zip_next
      (zp_item D hz (.inl rfl) hp ho h1 h2 p1 p2 (x := u) (y := u2) (by simpa using hu) (by simpa using hu2) fun g z' o' i' j' t' size' keep' => wpAny_pure ?_) (F.args_zip_next_1 _))))
    have zl : z < s.heap.objs.size := Heap.lt_size hz
    refine ⟨_, rfl, wpAny_letOwnedTupleGo_zip (s := { s with heap := g }) z' fun g2 z2 sb => ?_⟩
    have tt : g2.get? s.heap.objs.size = some { cls := .type "tuple", data := .seq #[u, u2] } := (sb.2 _ (Nat.ne_of_gt zl)).trans t'
    have new : ObjOk X.prog X.w (upd H s.heap.objs.size (.tup [x, y])) g2 s.heap.objs.size (.tup [x, y]) := ⟨by show 2 ≤ sizeLine; decide, [u, u2], .cons ru (.cons ru2 .nil), ⟨_, tt, rfl, _, rfl⟩⟩
    have I1 : Inv X pins σ (upd H s.heap.objs.size (.tup [x, y])) { s with heap := g2 } :=
      I.turnedNew (t' := s.toks) (ch := [z, p, o, i, j]) (fun c u' hb q => (sb.2 c (fun t => hb (by simp [t]))).trans (keep' c u' (fun t => hb (by simp [t])) (fun t => hb (by simp [t])) (fun t => hb (by simp [t])) (fun t => hb (by simp [t])) q)) hf (Nat.le_refl _) new
    refine ⟨.ref s.heap.objs.size, _, I1, rfl, ⟨_, x, y, rfl, I.hok.fresh (Nat.le_refl _), rfl, fun l hl => by rw [sqA_inj I hl hqx]; exact hx, fun l hl => by rw [sqA_inj I hl hqy]; exact hy⟩, ⟨z2, (sb.2 _ D.TIz).trans (keep' p _ D.TIz D.TITO D.TIi1 D.TIi2 hp), ⟨u, u2, (sb.2 _ D.TOz).trans o'⟩, i'.at fun u e => (sb.2 _ D.i1z).trans e, j'.at fun u e => (sb.2 _ D.i2z).trans e⟩, fun c hcm => ?_⟩
    have hlt : c < s.heap.objs.size := by
      simp only [List.mem_cons, List.not_mem_nil, or_false] at hcm
      rcases hcm with rfl | rfl | rfl | rfl | rfl
      · exact zl
      · exact Heap.lt_size hp
      · exact Heap.lt_size ho
      · obtain ⟨_, _, e1, _⟩ := h1.there; exact Heap.lt_size e1
      · obtain ⟨_, _, e2, _⟩ := h2.there; exact Heap.lt_size e2
    rw [upd_ne (Nat.ne_of_lt hlt)]
    exact (hf c hcm).1
  done := by
    intro X hP hw hK hc n pins s σ H E I hf st hg
    subst hP hw hK
    obtain ⟨hz, hp, ⟨x0, y0, ho⟩, h1, h2⟩ := st
    obtain ⟨xs, ys, hqx, hqy, hend⟩ := hg
    obtain ⟨its, rv, p1, _⟩ := sqA_src I hqx
    obtain ⟨its2, rv2, p2, _⟩ := sqA_src I hqy
    have l1 := rv.length
    have l2 := rv2.length
    have ty : s.TypeIs (.ref z) "zip" := ⟨_, hz, rfl⟩
    unfold pyNext
    refine wpAny_bind (wpAny_attempt (wpAny_callSpecial?_slot (name := Str.ofString "__next__") ty F.slot_zip_next (wpAny_call_entry F.slot_zip_next ty F.entry_zip_next
      (zp_end (I.ok.hd hc) D hz (.inl rfl) hp ho h1 h2 p1 p2 (hend.imp (fun q => by simp; omega) fun q => by simp; omega) fun g e keep' he => ?_) (F.args_zip_next_1 _))))
    obtain ⟨u, hu, hcl⟩ := he
    refine wpAny_bind (wpAny_isInstance (T := "StopIteration") (b := true) ⟨u, hu, hcl⟩ isSubtype_stop (wpAny_pure ⟨rfl, I.turnedL (t' := s.toks) (ch := [z, p, o, i, j]) (fun c u' hb q =>
      keep' c u' (fun t => hb (by simp [t])) (fun t => hb (by simp [t])) (fun t => hb (by simp [t])) (fun t => hb (by simp [t])) q) hf⟩))
  self := fun A n s Q E st h => wpAny_pyIter_zip st.1 h
/-! the call -/
def srcO (t : Bool) (l : Addr) : Obj := match t with
  | false => { cls := .type "list_iterator", data := .fields #[.ref l, .int 0 0] }
  | true => { cls := .type "tuple_iterator", data := .fields #[.ref l, .int 0 0] }
abbrev zm2 (t1 t2 : Bool) (h : Heap) (l m : Addr) : Heap := (h.push (srcO t1 l)).push (srcO t2 m)
abbrev zm4 (t1 t2 : Bool) (h : Heap) (l m : Addr) : Heap := ((zm2 t1 t2 h l m).push { cls := .type "tuple", data := .seq #[.ref h.objs.size, .ref (h.push (srcO t1 l)).objs.size] }).push { cls := .type "tuple", data := .seq #[.none, .none] }
abbrev zm5 (t1 t2 : Bool) (h : Heap) (l m : Addr) : Heap := (zm4 t1 t2 h l m).push { cls := .type "zip", data := .fields #[.none, .bool false, .bool false, .ref (zm2 t1 t2 h l m).objs.size, .ref ((zm2 t1 t2 h l m).push { cls := .type "tuple", data := .seq #[.ref h.objs.size, .ref (h.push (srcO t1 l)).objs.size] }).objs.size] }
theorem meets_zmLT (l m : Addr) (xs ys : Array Value) : Meets (Builtin.«zip.__new__» ⟨[.type "zip", .ref l, .ref m], []⟩) (fun _ R s => s.heap.IsList l xs ∧ s.heap.IsTuple m ys ∧ R (.ok (.ret (.ref (zm4 false true s.heap l m).objs.size))) { s with heap := zm5 false true s.heap l m }) :=
  .of_wp fun prog w A R s q => by
    obtain ⟨hp, g, d, tk, os⟩ := s
    obtain ⟨q1, q2, q⟩ := q
    have sb := sub_zip
    have k1 : Heap.IsList (Shared.heap ⟨hp, g, d, tk, os⟩) l xs := q1
    have k2 : Heap.IsTuple (Shared.heap ⟨hp.push { cls := .type "list_iterator", data := .fields #[.ref l, .int 0 0] }, g, d, tk, os⟩) m ys := Heap.IsTuple.push q2 _
    wp_walk using wpAny_pyIter_list k1, wpAny_pyIter_tuple k2
    exact ⟨_, rfl, q⟩
theorem meets_zmTL (l m : Addr) (xs ys : Array Value) : Meets (Builtin.«zip.__new__» ⟨[.type "zip", .ref l, .ref m], []⟩) (fun _ R s => s.heap.IsTuple l xs ∧ s.heap.IsList m ys ∧ R (.ok (.ret (.ref (zm4 true false s.heap l m).objs.size))) { s with heap := zm5 true false s.heap l m }) :=
  .of_wp fun prog w A R s q => by
    obtain ⟨hp, g, d, tk, os⟩ := s
    obtain ⟨q1, q2, q⟩ := q
    have sb := sub_zip
    have k1 : Heap.IsTuple (Shared.heap ⟨hp, g, d, tk, os⟩) l xs := q1
    have k2 : Heap.IsList (Shared.heap ⟨hp.push { cls := .type "tuple_iterator", data := .fields #[.ref l, .int 0 0] }, g, d, tk, os⟩) m ys := Heap.IsList.push q2 _
    wp_walk using wpAny_pyIter_tuple k1, wpAny_pyIter_list k2
    exact ⟨_, rfl, q⟩
theorem srcO_it {t : Bool} {h : Heap} {i l : Addr} (e : h.get? i = some (srcO t l)) : SIt t h i l 0 := by
  cases t with
  | false => exact ⟨_, e, rfl, rfl⟩
  | true => exact ⟨_, e, rfl, rfl⟩
section
variable {P : Program} {w : World} {A : Around} {E : Value → Shared → Prop} {s : Shared}
/-- what stands behind the call -/
theorem zm_at (t1 t2 : Bool) (h : Heap) (l m : Addr) : (zm4 t1 t2 h l m).objs.size = h.objs.size + 4 ∧ ZpAt (zm5 t1 t2 h l m) (h.objs.size + 4) (h.objs.size + 2) (h.objs.size + 3) .none false ∧ IsPair (zm5 t1 t2 h l m) (h.objs.size + 2) (.ref h.objs.size) (.ref (h.objs.size + 1)) ∧ IsPair (zm5 t1 t2 h l m) (h.objs.size + 3) .none .none ∧
    SIt t1 (zm5 t1 t2 h l m) h.objs.size l 0 ∧ SIt t2 (zm5 t1 t2 h l m) (h.objs.size + 1) m 0 ∧ ∀ c o, h.get? c = some o → (zm5 t1 t2 h l m).get? c = some o := by
  have nf : ∀ (t : Bool) (l : Addr), (srcO t l).isFreed = false := fun t l => by cases t <;> rfl
  have z1 : (h.push (srcO t1 l)).objs.size = h.objs.size + 1 := Heap.size_push ..
  have z2 : (zm2 t1 t2 h l m).objs.size = h.objs.size + 2 := by rw [Heap.size_push, z1]
  have z3 : ((zm2 t1 t2 h l m).push { cls := .type "tuple", data := .seq #[.ref h.objs.size, .ref (h.push (srcO t1 l)).objs.size] }).objs.size = h.objs.size + 3 := by rw [Heap.size_push, z2]
  have z4 : (zm4 t1 t2 h l m).objs.size = h.objs.size + 4 := by rw [Heap.size_push, z3]
  have a5 : (zm5 t1 t2 h l m).get? (zm4 t1 t2 h l m).objs.size = some _ := Heap.get?_push_size _ rfl
  have a4 : (zm5 t1 t2 h l m).get? ((zm2 t1 t2 h l m).push { cls := .type "tuple", data := .seq #[.ref h.objs.size, .ref (h.push (srcO t1 l)).objs.size] }).objs.size = some { cls := .type "tuple", data := .seq #[.none, .none] } := Heap.get?_push_of_some _ (Heap.get?_push_size _ rfl)
  have a3 : (zm5 t1 t2 h l m).get? (zm2 t1 t2 h l m).objs.size = some { cls := .type "tuple", data := .seq #[.ref h.objs.size, .ref (h.push (srcO t1 l)).objs.size] } := Heap.get?_push_of_some _ (Heap.get?_push_of_some _ (Heap.get?_push_size _ rfl))
  have a2 : (zm5 t1 t2 h l m).get? (h.push (srcO t1 l)).objs.size = some (srcO t2 m) := Heap.get?_push_of_some _ (Heap.get?_push_of_some _ (Heap.get?_push_of_some _ (Heap.get?_push_size _ (nf _ _))))
  have a1 : (zm5 t1 t2 h l m).get? h.objs.size = some (srcO t1 l) := Heap.get?_push_of_some _ (Heap.get?_push_of_some _ (Heap.get?_push_of_some _ (Heap.get?_push_of_some _ (Heap.get?_push_size _ (nf _ _)))))
  rw [z2, z3, z4] at a5
  rw [z3] at a4
  rw [z2, z1] at a3
  rw [z1] at a2
  exact ⟨z4, a5, a3, a4, srcO_it a1, srcO_it a2, fun c o e => Heap.get?_push_of_some _ (Heap.get?_push_of_some _ (Heap.get?_push_of_some _ (Heap.get?_push_of_some _ (Heap.get?_push_of_some _ e))))⟩
theorem call_zipM {t1 t2 : Bool} {l m : Addr} {xs ys : Array Value} {Q : Value → Shared → Prop} (ne : t1 ≠ t2) (hl : SSr t1 s.heap l xs) (hm : SSr t2 s.heap m ys)
    (q : ∀ g, ZpAt g (s.heap.objs.size + 4) (s.heap.objs.size + 2) (s.heap.objs.size + 3) .none false → IsPair g (s.heap.objs.size + 2) (.ref s.heap.objs.size) (.ref (s.heap.objs.size + 1)) → IsPair g (s.heap.objs.size + 3) .none .none →
      SIt t1 g s.heap.objs.size l 0 → SIt t2 g (s.heap.objs.size + 1) m 0 → (∀ c o, s.heap.get? c = some o → g.get? c = some o) → Q (.ref (s.heap.objs.size + 4)) { s with heap := g }) : wpAny (model P w) A (call (.type "zip") [.ref l, .ref m]) Q E s := by
  obtain ⟨z4, b1, b2, b3, b4, b5, b6⟩ := zm_at t1 t2 s.heap l m
  have fin := q _ b1 b2 b3 b4 b5 b6
  have made : ∃ o, (zm5 t1 t2 s.heap l m).get? (s.heap.objs.size + 4) = some o ∧ o.cls = .type "zip" := ⟨_, b1, rfl⟩
  cases t1 <;> cases t2 <;> first | exact (ne rfl).elim | skip
  · refine callType_new F.called_zip (by decide) (F.typeCall_zip_2 _ _) (F.newCall_zip_2 _ _) (fun obj => F.args_object_init_3 obj _ _) F.entry_zip_new (meets_zmLT l m xs ys) ⟨hl, hm, ?_⟩
    show _ ∧ _
    rw [z4]
    exact ⟨made, fin⟩
  · refine callType_new F.called_zip (by decide) (F.typeCall_zip_2 _ _) (F.newCall_zip_2 _ _) (fun obj => F.args_object_init_3 obj _ _) F.entry_zip_new (meets_zmTL l m xs ys) ⟨hl, hm, ?_⟩
    show _ ∧ _
    rw [z4]
    exact ⟨made, fin⟩
end
def iZipM (K : PySem.W.Frag) (ta : TA) : TI := fun σ H R => ta σ H fun vs H1 => ∃ a b xs ys, vs = [.ref a, .ref b] ∧ ((SqL K H1 a xs ∧ SqL K H1 b ys ∧ R (Itz K a b) H1) ∨ (SqT K H1 a xs ∧ SqT K H1 b ys ∧ R (RZ.ItzT K a b) H1) ∨ ∃ t1 t2, t1 ≠ t2 ∧ SqA t1 K H1 a xs ∧ SqA t2 K H1 b ys ∧ R (ItzM t1 t2 K a b) H1)
theorem pi_zipM {X : Cx} {e e2 : Expr} {ta : TA} {pn pos np : Pos} {elts : List Expr} {kk : Nat} (hg : Gl X "zip") (hm : X.mg "zip" = none) (ha : PA X [e, e2] ta)
    (hs : starEach [e, e2] X.env = (false, eval e X.env) :: starEach [e2] X.env := by rfl) (hpl : (backTo pos (starEach [e2] X.env)).any (·.1) = false := by rfl) :
    PI X (.Tuple elts kk np) (.Call (.Name "zip" pn) [e, e2] [] pos) (iZipM X.K ta) := by
  refine ⟨fun pins s σ H R I h => Call_ (ld_blt I hg hm PyProof.Rows.boot_zip (PyProof.Rows.callWith_type1 (thn (ha.run pos pins s σ H _ I h) fun us s1 ⟨vs, H1, I1, r1, q1⟩ => ?_) hs hpl))⟩
  obtain ⟨a, b, xs, ys, rfl, q1⟩ := q1
  cases r1 with
  | cons r rr => cases rr with
    | cons r' rr =>
      cases rr
      cases r
      cases r'
      have far : ∀ c, c ∈ [s1.heap.objs.size + 4, s1.heap.objs.size + 2, s1.heap.objs.size + 3, s1.heap.objs.size, s1.heap.objs.size + 1] → FpOk X pins H1 c := fun c hcm => by
        have hle : s1.heap.objs.size ≤ c := by
          simp only [List.mem_cons, List.not_mem_nil, or_false] at hcm
          rcases hcm with rfl | rfl | rfl | rfl | rfl <;> first | exact Nat.le_add_right _ _ | exact Nat.le_refl _
        exact I1.fpOk hle (I1.hok.fresh hle)
      rcases q1 with ⟨hqx, hqy, q⟩ | ⟨hqx, hqy, q⟩ | ⟨t1, t2, ne, hqx, hqy, q⟩
      · obtain ⟨its, rv, p1, _⟩ := I1.list hqx
        obtain ⟨its2, rv2, p2, _⟩ := I1.list hqy
        refine call_zip_2 p1.isList p2.isList fun g hz hTI hTO h1 h2 hsz hk => wpAny_pyIter_zip hz ?_
        have I2 : Inv X pins σ H1 { s1 with heap := g } := I1.kept (t' := s1.toks) hk
        exact ⟨_, _, _, _, H1, rfl, I2, turn_zip (PySem.W.ktu_apart s1.heap.objs.size a b p1.lt p2.lt), ⟨hz, hTI, ⟨_, _, hTO⟩, h1, h2⟩, far, q⟩
      · obtain ⟨its, rv, p1, l1⟩ := sqA_src (t := true) I1 hqx
        obtain ⟨its2, rv2, p2, l2⟩ := sqA_src (t := true) I1 hqy
        refine RZ.call_zipT p1 p2 fun g hz hTI hTO h1 h2 hsz hk => wpAny_pyIter_zip hz ?_
        have I2 : Inv X pins σ H1 { s1 with heap := g } := I1.kept (t' := s1.toks) hk
        exact ⟨_, _, _, _, H1, rfl, I2, RZ.turn_zipT (PySem.W.ktu_apart s1.heap.objs.size a b l1 l2), ⟨hz, hTI, ⟨_, _, hTO⟩, h1, h2⟩, far, q⟩
      · obtain ⟨its, rv, p1, l1⟩ := sqA_src I1 hqx
        obtain ⟨its2, rv2, p2, l2⟩ := sqA_src I1 hqy
        refine call_zipM ne p1 p2 fun g hz hTI hTO h1 h2 hk => wpAny_pyIter_zip hz ?_
        have I2 : Inv X pins σ H1 { s1 with heap := g } := I1.kept (t' := s1.toks) hk
        exact ⟨_, _, _, _, H1, rfl, I2, turn_zipM (PySem.W.ktu_apart s1.heap.objs.size a b l1 l2), ⟨hz, hTI, ⟨_, _, hTO⟩, h1, h2⟩, far, q⟩
end Rf
set_option maxHeartbeats 4000000
namespace Rf
open PySem PySem.Spec PyProof.Rows L2 RfE
/-! ### what loops go over -/
def RnR (g : Gs) (m : List Addr) (H : Hp) (r : Rn) (J : It) : Prop := match r with
  | .lst n => ∃ p, m[n]? = some p ∧ J = Itl g.K p
  | .tup xs => ∃ p ys, SqT g.K H p ys ∧ VRs g m H xs ys ∧ J = Itt g.K p
  | .str x => J = Its x
  | .rng lo n => J = Itr lo n
  | .enL n => ∃ p, m[n]? = some p ∧ J = Ite g.K p
  | .enT xs => ∃ p ys, SqT g.K H p ys ∧ VRs g m H xs ys ∧ J = IteT g.K p
  | .zL a b => ∃ p p', m[a]? = some p ∧ m[b]? = some p' ∧ J = Itz g.K p p'
  | .zT xs zs => ∃ p ys p' ys', SqT g.K H p ys ∧ VRs g m H xs ys ∧ SqT g.K H p' ys' ∧ VRs g m H zs ys' ∧ J = RZ.ItzT g.K p p'
  | .rngC lo c n => J = Itc lo c n
  | .keys n => ∃ (p : Addr) (od : Obj) (l : List (Key × V)), m[n]? = some p ∧ H p = some (.frz od (.dK l)) ∧ J = Itk p od l
  | .itms n => ∃ (p : Addr) (od : Obj) (l : List (Key × V)), m[n]? = some p ∧ H p = some (.frz od (.dK l)) ∧ J = Iti p od l
  | .zLT a zs => ∃ p p' ys', m[a]? = some p ∧ SqT g.K H p' ys' ∧ VRs g m H zs ys' ∧ J = ItzM false true g.K p p'
  | .zTL xs b => ∃ p ys p', SqT g.K H p ys ∧ VRs g m H xs ys ∧ m[b]? = some p' ∧ J = ItzM true false g.K p p'
section
variable {g : Gs} {m m' : List Addr} {H H' : Hp} {h : List Ob}
theorem RnR.mono {r : Rn} {J : It} (l : Le g m H m' H') (x : RnR g m H r J) : RnR g m' H' r J := by
  cases r with
  | lst n => obtain ⟨p, a, b⟩ := x; exact ⟨p, pre_get l.pre a, b⟩
  | tup xs => obtain ⟨p, ys, a, b, c⟩ := x; exact ⟨p, ys, l.sq _ _ a, VRs.mono l _ _ b, c⟩
  | str x => exact x
  | rng lo n => exact x
  | enL n => obtain ⟨p, a, b⟩ := x; exact ⟨p, pre_get l.pre a, b⟩
  | enT xs => obtain ⟨p, ys, a, b, c⟩ := x; exact ⟨p, ys, l.sq _ _ a, VRs.mono l _ _ b, c⟩
  | zL a b => obtain ⟨p, p', a, b, c⟩ := x; exact ⟨p, p', pre_get l.pre a, pre_get l.pre b, c⟩
  | zT xs zs => obtain ⟨p, ys, p', ys', a, b, c, d, e⟩ := x; exact ⟨p, ys, p', ys', l.sq _ _ a, VRs.mono l _ _ b, l.sq _ _ c, VRs.mono l _ _ d, e⟩
  | rngC lo c n => exact x
  | keys n => obtain ⟨p, od, k, a, b, c⟩ := x; exact ⟨p, od, k, pre_get l.pre a, l.fz _ _ _ b, c⟩
  | itms n => obtain ⟨p, od, k, a, b, c⟩ := x; exact ⟨p, od, k, pre_get l.pre a, l.fz _ _ _ b, c⟩
  | zLT a zs => obtain ⟨p, p', ys', a, b, c, d⟩ := x; exact ⟨p, p', ys', pre_get l.pre a, l.sq _ _ b, VRs.mono l _ _ c, d⟩
  | zTL xs b => obtain ⟨p, ys, p', a, b, c, d⟩ := x; exact ⟨p, ys, p', l.sq _ _ a, VRs.mono l _ _ b, pre_get l.pre c, d⟩
theorem HR.dicAt {n : Nat} {p : Addr} {od : Obj} {l : List (Key × V)} {kvs : List (Key × Uv)} (x : HR g m H h) (hn : m[n]? = some p) (hp : H p = some (.frz od (.dK l))) (hu : h[n]? = some (.dicL kvs)) : KRs g m H kvs l := by
  obtain ⟨q, ho, a, b, od', l', rfl, d⟩ := x.at_ n _ hu
  rw [hn] at a; cases a
  rw [hp] at b; cases b
  exact d
theorem KRs.getN {xs : List (Key × Uv)} {ys : List (Key × V)} {i : Nat} (h : KRs g m H xs ys) (e : xs[i]? = Option.none) : ys.length ≤ i := by
  rw [← h.length]; exact List.getElem?_eq_none_iff.mp e
theorem KRs.get : ∀ {xs : List (Key × Uv)} {ys : List (Key × V)} {i : Nat} {k : Key} {u : Uv}, KRs g m H xs ys → xs[i]? = some (k, u) → ∃ v, ys[i]? = some (k, v) ∧ VR g m H u v
  | [], _, _, _, _, _, e => by simp at e
  | (a, b) :: xs, _, 0, k, u, h, e => by
    obtain ⟨y, r, rfl, p, q⟩ := h
    have e2 : (a, b) = (k, u) := by simpa using e
    cases e2
    exact ⟨y, rfl, p⟩
  | (a, b) :: xs, _, i + 1, k, u, h, e => by
    obtain ⟨y, r, rfl, p, q⟩ := h
    obtain ⟨z, e1, e2⟩ := KRs.get (i := i) (k := k) (u := u) q (by simpa using e)
    exact ⟨z, by simpa using e1, e2⟩
theorem uKey_kV (k : Key) : VR g m H (uKey k) (kV k) := by
  cases k <;> rfl
theorem HR.lstAt {n : Nat} {p : Addr} {xs : List Uv} (x : HR g m H h) (hn : m[n]? = some p) (hu : h[n]? = some (.lst xs)) : ∃ ys, H p = some (.lst ys) ∧ VRs g m H xs ys := by
  obtain ⟨q, ho, a, b, ys, rfl, d⟩ := x.at_ n _ hu
  rw [hn] at a; cases a
  exact ⟨ys, b, d⟩
theorem VRs.getN {xs : List Uv} {ys : List V} {i : Nat} (h : VRs g m H xs ys) (e : xs[i]? = Option.none) : ys.length ≤ i := by
  rw [← h.length]; exact List.getElem?_eq_none_iff.mp e
theorem at_stop {r : Rn} {J : It} {i : Nat} (x : RnR g m H r J) (hr : HR g m H h) (e : r.at h i = some none) : J.stop i H := by
  unfold Rn.at at e
  split at e
  · obtain ⟨p, a, rfl⟩ := x
    split at e
    · rename_i xs e0
      obtain ⟨ys, k, v⟩ := hr.lstAt a e0
      exact ⟨ys, SqL.of k, v.getN (Option.some.inj e)⟩
    · cases e
  · obtain ⟨p, ys, a, b, rfl⟩ := x
    exact ⟨ys, a, b.getN (Option.some.inj e)⟩
  · cases (show _ = _ from x)
    rename_i y
    have e' := Option.some.inj e
    rw [Option.map_eq_none_iff] at e'
    have z := List.getElem?_eq_none_iff.mp e'
    show y.cps.size ≤ i
    simpa using z
  · cases (show _ = _ from x)
    rename_i lo n
    have e' := Option.some.inj e
    show n ≤ i
    split at e'
    · cases e'
    · omega
  · obtain ⟨p, a, rfl⟩ := x
    split at e
    · rename_i xs e0
      obtain ⟨ys, k, v⟩ := hr.lstAt a e0
      have e' := Option.some.inj e
      rw [Option.map_eq_none_iff] at e'
      exact ⟨ys, SqL.of k, v.getN e'⟩
    · cases e
  · obtain ⟨p, ys, a, b, rfl⟩ := x
    have e' := Option.some.inj e
    rw [Option.map_eq_none_iff] at e'
    exact ⟨ys, a, b.getN e'⟩
  · obtain ⟨p, p', a, a', rfl⟩ := x
    split at e
    · rename_i xs zs e0 e1
      obtain ⟨ys, k, v⟩ := hr.lstAt a e0
      obtain ⟨ys', k', v'⟩ := hr.lstAt a' e1
      refine ⟨ys, ys', SqL.of k, SqL.of k', ?_⟩
      have e' := Option.some.inj e
      split at e'
      · cases e'
      · rename_i hno
        cases ha : xs[i]? with
        | none => exact .inl (v.getN ha)
        | some u =>
          cases hb : zs[i]? with
          | none => exact .inr (v'.getN hb)
          | some w => exact (hno u w ha hb).elim
    · cases e
  · obtain ⟨p, ys, p', ys', a, b, c, d, rfl⟩ := x
    rename_i xs zs
    refine ⟨ys, ys', a, c, ?_⟩
    have e' := Option.some.inj e
    split at e'
    · cases e'
    · rename_i hno
      cases ha : xs[i]? with
      | none => exact .inl (b.getN ha)
      | some u =>
        cases hb : zs[i]? with
        | none => exact .inr (d.getN hb)
        | some w => exact (hno u w ha hb).elim
  · cases (show _ = _ from x)
    rename_i lo c n
    have e' := Option.some.inj e
    show n ≤ i
    split at e'
    · cases e'
    · omega
  · obtain ⟨p, od, l, a, b, rfl⟩ := x
    split at e
    · rename_i kvs e0
      have e' := Option.some.inj e
      rw [Option.map_eq_none_iff] at e'
      exact ⟨b, (hr.dicAt a b e0).getN e'⟩
    · cases e
  · obtain ⟨p, od, l, a, b, rfl⟩ := x
    split at e
    · rename_i kvs e0
      have e' := Option.some.inj e
      rw [Option.map_eq_none_iff] at e'
      exact ⟨b, (hr.dicAt a b e0).getN e'⟩
    · cases e
  · obtain ⟨p, p', ys', a, c, d, rfl⟩ := x
    split at e
    · rename_i zs _ xs e0
      obtain ⟨ys, k, v⟩ := hr.lstAt a e0
      refine ⟨ys, ys', SqL.of k, c, ?_⟩
      have e' := Option.some.inj e
      split at e'
      · cases e'
      · rename_i hno
        cases ha : xs[i]? with
        | none => exact .inl (v.getN ha)
        | some u =>
          cases hb : zs[i]? with
          | none => exact .inr (d.getN hb)
          | some w => exact (hno u w ha hb).elim
    · cases e
  · obtain ⟨p, ys, p', a, b, c, rfl⟩ := x
    split at e
    · rename_i xs _ _ zs e0
      obtain ⟨ys', k, v⟩ := hr.lstAt c e0
      refine ⟨ys, ys', a, SqL.of k, ?_⟩
      have e' := Option.some.inj e
      split at e'
      · cases e'
      · rename_i hno
        cases ha : xs[i]? with
        | none => exact .inl (b.getN ha)
        | some u =>
          cases hb : zs[i]? with
          | none => exact .inr (v.getN hb)
          | some w => exact (hno u w ha hb).elim
    · cases e
theorem pair_new {T : Addr} {x y : V} {u w : Uv} (hr : HR g m H h) (hT : H T = none) (a : VR g m H u x) (b : VR g m H w y) :
    ∃ m', Le g m H m' (upd H T (.tup [x, y])) ∧ HR g m' (upd H T (.tup [x, y])) h ∧ VR g m' (upd H T (.tup [x, y])) (.tup [u, w]) (.ref T) :=
  ⟨m, Le.put hT, hr.put hT, T, [x, y], rfl, .inl (.inl upd_same), VRs.mono (Le.put hT) _ _ (.cons a (.cons b .nil))⟩
theorem at_go {r : Rn} {J : It} {i : Nat} {u : Uv} (x : RnR g m H r J) (hr : HR g m H h) (e : r.at h i = some (some u)) :
    J.go i H ∧ ∀ y H', J.yld i H y H' → ∃ m', Le g m H m' H' ∧ HR g m' H' h ∧ VR g m' H' u y := by
  have same : ∀ {v : V}, VR g m H u v → ∃ m', Le g m H m' H ∧ HR g m' H h ∧ VR g m' H u v := fun {v} rv => ⟨m, Le.refl _ _ _, hr, rv⟩
  unfold Rn.at at e
  split at e
  · obtain ⟨p, a, rfl⟩ := x
    split at e
    · rename_i xs e0
      obtain ⟨ys, k, v⟩ := hr.lstAt a e0
      obtain ⟨w, e1, rw'⟩ := v.get (Option.some.inj e)
      refine ⟨⟨ys, w, SqL.of k, e1⟩, fun y H' ⟨e2, z⟩ => ?_⟩
      subst e2
      have := z ys (SqL.of k)
      rw [e1] at this; cases this
      exact same rw'
    · cases e
  · obtain ⟨p, ys, a, b, rfl⟩ := x
    obtain ⟨w, e1, rw'⟩ := b.get (Option.some.inj e)
    refine ⟨⟨ys, w, a, e1⟩, fun y H' ⟨e2, z⟩ => ?_⟩
    subst e2
    have := z ys a
    rw [e1] at this; cases this
    exact same rw'
  · cases (show _ = _ from x)
    rename_i y
    have e' := Option.some.inj e
    obtain ⟨cc, h1, h2⟩ := Option.map_eq_some_iff.mp e'
    subst h2
    have hlt := (List.getElem?_eq_some_iff.mp h1).1
    refine ⟨by show i < y.cps.size; simpa using hlt, fun v H' ⟨e2, c2, e3, e4⟩ => ?_⟩
    subst e2 e4
    have h1' : y.cps[i]? = some cc := by simpa using h1
    rw [h1'] at e3; cases e3
    exact same rfl
  · cases (show _ = _ from x)
    rename_i lo n
    have e' := Option.some.inj e
    split at e'
    · rename_i hlt
      cases e'
      refine ⟨hlt, fun v H' ⟨e2, e3⟩ => ?_⟩
      subst e2 e3
      exact same rfl
    · cases e'
  · obtain ⟨p, a, rfl⟩ := x
    split at e
    · rename_i xs e0
      obtain ⟨ys, k, v⟩ := hr.lstAt a e0
      obtain ⟨cc, h1, h2⟩ := Option.map_eq_some_iff.mp (Option.some.inj e)
      subst h2
      obtain ⟨w, e1, rw'⟩ := v.get h1
      refine ⟨⟨ys, w, SqL.of k, e1⟩, fun y H' ⟨T, z, e2, hT, e3, e4⟩ => ?_⟩
      subst e2 e3
      have := e4 ys (SqL.of k)
      rw [e1] at this; cases this
      exact pair_new hr hT rfl rw'
    · cases e
  · obtain ⟨p, ys, a, b, rfl⟩ := x
    obtain ⟨cc, h1, h2⟩ := Option.map_eq_some_iff.mp (Option.some.inj e)
    subst h2
    obtain ⟨w, e1, rw'⟩ := b.get h1
    refine ⟨⟨ys, w, a, e1⟩, fun y H' ⟨T, z, e2, hT, e3, e4⟩ => ?_⟩
    subst e2 e3
    have := e4 ys a
    rw [e1] at this; cases this
    exact pair_new hr hT rfl rw'
  · obtain ⟨p, p', a, a', rfl⟩ := x
    split at e
    · rename_i xs zs e0 e1
      obtain ⟨ys, k, v⟩ := hr.lstAt a e0
      obtain ⟨ys', k', v'⟩ := hr.lstAt a' e1
      have e' := Option.some.inj e
      split at e'
      · rename_i u1 u2 h1 h2
        cases e'
        obtain ⟨w, g1, rw'⟩ := v.get h1
        obtain ⟨w2, g2, rw2⟩ := v'.get h2
        refine ⟨⟨ys, ys', w, w2, SqL.of k, SqL.of k', g1, g2⟩, fun y H' ⟨T, z, z2, e2, hT, e3, e4, e5⟩ => ?_⟩
        subst e2 e3
        have q1 := e4 ys (SqL.of k)
        have q2 := e5 ys' (SqL.of k')
        rw [g1] at q1; cases q1
        rw [g2] at q2; cases q2
        exact pair_new hr hT rw' rw2
      · cases e'
    · cases e
  · obtain ⟨p, ys, p', ys', a, b, c, d, rfl⟩ := x
    have e' := Option.some.inj e
    split at e'
    · rename_i u1 u2 h1 h2
      cases e'
      obtain ⟨w, g1, rw'⟩ := b.get h1
      obtain ⟨w2, g2, rw2⟩ := d.get h2
      refine ⟨⟨ys, ys', w, w2, a, c, g1, g2⟩, fun y H' ⟨T, z, z2, e2, hT, e3, e4, e5⟩ => ?_⟩
      subst e2 e3
      have q1 := e4 ys a
      have q2 := e5 ys' c
      rw [g1] at q1; cases q1
      rw [g2] at q2; cases q2
      exact pair_new hr hT rw' rw2
    · cases e'
  · cases (show _ = _ from x)
    rename_i lo c n
    have e' := Option.some.inj e
    split at e'
    · rename_i hlt
      cases e'
      refine ⟨hlt, fun v H' ⟨e2, e3⟩ => ?_⟩
      subst e2 e3
      exact same rfl
    · cases e'
  · obtain ⟨p, od, l, a, b, rfl⟩ := x
    split at e
    · rename_i kvs e0
      obtain ⟨⟨k, w⟩, h1, h2⟩ := Option.map_eq_some_iff.mp (Option.some.inj e)
      subst h2
      have K := hr.dicAt a b e0
      obtain ⟨v, g1, rv⟩ := K.get h1
      refine ⟨⟨b, (List.getElem?_eq_some_iff.mp g1).1⟩, fun y H' ⟨e2, k2, v2, e3, e4⟩ => ?_⟩
      subst e2
      rw [g1] at e3
      cases e3
      rw [e4]
      exact same (uKey_kV _)
    · cases e
  · obtain ⟨p, od, l, a, b, rfl⟩ := x
    split at e
    · rename_i kvs e0
      obtain ⟨⟨k, w⟩, h1, h2⟩ := Option.map_eq_some_iff.mp (Option.some.inj e)
      subst h2
      have K := hr.dicAt a b e0
      obtain ⟨v, g1, rv⟩ := K.get h1
      refine ⟨⟨b, (List.getElem?_eq_some_iff.mp g1).1⟩, fun y H' ⟨T, k2, v2, e3, e2, hT, e4⟩ => ?_⟩
      subst e2 e4
      rw [g1] at e3
      cases e3
      exact pair_new hr hT (uKey_kV _) rv
    · cases e
  · obtain ⟨p, p', ys', a, c, d, rfl⟩ := x
    split at e
    · rename_i xs e0
      obtain ⟨ys, k, v⟩ := hr.lstAt a e0
      have e' := Option.some.inj e
      split at e'
      · rename_i u1 u2 h1 h2
        cases e'
        obtain ⟨w, g1, rw'⟩ := v.get h1
        obtain ⟨w2, g2, rw2⟩ := d.get h2
        refine ⟨⟨ys, ys', w, w2, SqL.of k, c, g1, g2⟩, fun y H' ⟨T, z, z2, e2, hT, e3, e4, e5⟩ => ?_⟩
        subst e2 e3
        have q1 := e4 ys (SqL.of k)
        have q2 := e5 ys' c
        rw [g1] at q1; cases q1
        rw [g2] at q2; cases q2
        exact pair_new hr hT rw' rw2
      · cases e'
    · cases e
  · obtain ⟨p, ys, p', a, b, c, rfl⟩ := x
    split at e
    · rename_i zs e0
      obtain ⟨ys', k, v⟩ := hr.lstAt c e0
      have e' := Option.some.inj e
      split at e'
      · rename_i u1 u2 h1 h2
        cases e'
        obtain ⟨w, g1, rw'⟩ := b.get h1
        obtain ⟨w2, g2, rw2⟩ := v.get h2
        refine ⟨⟨ys, ys', w, w2, a, SqL.of k, g1, g2⟩, fun y H' ⟨T, z, z2, e2, hT, e3, e4, e5⟩ => ?_⟩
        subst e2 e3
        have q1 := e4 ys a
        have q2 := e5 ys' (SqL.of k)
        rw [g1] at q1; cases q1
        rw [g2] at q2; cases q2
        exact pair_new hr hT rw' rw2
      · cases e'
    · cases e
end
end Rf
set_option maxHeartbeats 4000000
namespace Rf
open PySem PySem.Spec PyProof.Rows L2 RfE
/-! ### targets -/
/-- only the slots sl change -/
def Only (sl : List Nat) (σ σ' : L2.St) : Prop := ∀ vs, (∀ i ∈ sl, i ∈ vs) → wipe σ' vs = wipe σ vs
theorem Only.refl (sl : List Nat) (σ : L2.St) : Only sl σ σ := fun _ _ => rfl
theorem Only.trans {sl : List Nat} {σ σ1 σ2 : L2.St} (a : Only sl σ σ1) (b : Only sl σ1 σ2) : Only sl σ σ2 := fun vs h => (b vs h).trans (a vs h)
theorem wipe_get (σ : L2.St) (j : Nat) : ∀ vs : List Nat, (wipe σ vs)[j]? = if j ∈ vs then σ[j]?.map fun _ => none else σ[j]?
  | [] => by simp [wipe]
  | v :: vs => by
    unfold wipe
    have ih := wipe_get σ j vs
    by_cases e : v = j
    · subst e
      rw [if_pos List.mem_cons_self, List.getElem?_set]
      simp only [if_true]
      rw [wipe_length]
      by_cases h : v < σ.length
      · rw [if_pos h, List.getElem?_eq_getElem h] <;> rfl
      · rw [if_neg h, List.getElem?_eq_none (Nat.le_of_not_lt h)] <;> rfl
    · rw [List.getElem?_set_ne e, ih]
      by_cases h : j ∈ vs
      · rw [if_pos h, if_pos (List.mem_cons_of_mem _ h)]
      · rw [if_neg h, if_neg (fun z => (List.mem_cons.mp z).elim (fun z => e z.symm) h)]
theorem Only.set {sl : List Nat} {σ : L2.St} {i : Nat} {v : V} (hi : i ∈ sl) : Only sl σ (σ.set i (some v)) := fun vs h => by
  have hm := h i hi
  apply List.ext_getElem?
  intro j
  rw [wipe_get, wipe_get]
  by_cases hj : j ∈ vs
  · rw [if_pos hj, if_pos hj, List.getElem?_set]
    by_cases e : i = j
    · subst e
      simp only [if_true]
      by_cases hl : i < σ.length
      · rw [if_pos hl, List.getElem?_eq_getElem hl] <;> rfl
      · rw [if_neg hl, List.getElem?_eq_none (Nat.le_of_not_lt hl)]
    · rw [if_neg e]
  · rw [if_neg hj, if_neg hj, List.getElem?_set_ne (fun (e : i = j) => hj (by rw [← e]; exact hm))]
def setR (g : Gs) (q : Iv g) (sl : List Nat) (f : Uv → Env' → Option Env') : TG := fun v σ H Q => ∃ m s h u s', At g q m s h σ H ∧ VR g m H u v ∧ f u s = some s' ∧ ∀ σ', At g q m s' h σ' H → Only sl σ σ' → Q σ' H
def setRs (g : Gs) (q : Iv g) (sl : List Nat) (f : List Uv → Env' → Option Env') : TGs := fun vs σ H Q => ∃ m s h us s', At g q m s h σ H ∧ VRs g m H us vs ∧ f us s = some s' ∧ ∀ σ', At g q m s' h σ' H → Only sl σ σ' → Q σ' H
theorem _root_.L2.PG.of {X : Cx} {e : Expr} {t t' : TG} (h : PG X e t) (w : ∀ v σ H Q, t' v σ H Q → t v σ H Q) : PG X e t' := ⟨fun pins s σ H v u Q I r q => h.run pins s σ H v u Q I r (w v σ H Q q)⟩
theorem _root_.L2.PGs.of {X : Cx} {e : List Expr} {t t' : TGs} (h : PGs X e t) (w : ∀ v σ H Q, t' v σ H Q → t v σ H Q) : PGs X e t' := ⟨fun pins s σ H v u Q I r q => h.run pins s σ H v u Q I r (w v σ H Q q)⟩
theorem _root_.L2.PS.of {X : Cx} {e : Stmt} {t t' : TS} (h : PS X e t) (w : ∀ D σ H, t' D σ H → t D σ H) : PS X e t' := ⟨fun pins s σ H D I q => h.run pins s σ H D I (w D σ H q)⟩
theorem _root_.L2.PSs.of {X : Cx} {e : List Stmt} {t t' : TS} (h : PSs X e t) (w : ∀ D σ H, t' D σ H → t D σ H) : PSs X e t' := ⟨fun pins s σ H D I q => h.run pins s σ H D I (w D σ H q)⟩
theorem At.put {g : Gs} {q : Iv g} {m : List Addr} {s : Env'} {h : List Ob} {z : L2.St} {H : Hp} {i : Nat} {u : Uv} {v : V} (A : At g q m s h z H) (r : VR g m H u v) (hi : ∀ p ∈ q.pin, p.1 ≠ i) : At g q m (s.set i (some u)) h (z.set i (some v)) H :=
  ⟨A.sr.put r, A.hr, fun p hp => by rw [List.getElem?_set_ne (Ne.symm (hi p hp))]; exact A.cu.1 p hp, A.cu.2⟩
section
variable (X : Cx) (g : Gs) (W : WX) (q : Iv g) (c : Cf) (hb : Hbt)
def NG (sl : List Nat) (e : Expr) (t : IT) : Prop := ∀ n, PG X e (setR g q sl fun u s => setT n t u s)
def NGs (sl : List Nat) (es : List Expr) (ts : List IT) : Prop := ∀ n, PGs X es (setRs g q sl fun us s => setTs n ts us s)
def FPost (D : Ends) : Fl → List Ob → List Addr → Hp → Prop := fun f h' m' H' => match f with
  | .nx s' => ∀ σ', At g q m' s' h' σ' H' → D.nx σ' H'
  | .bk s' => ∀ σ', At g q m' s' h' σ' H' → D.bk σ' H'
  | .ct s' => ∀ σ', At g q m' s' h' σ' H' → D.ct σ' H'
  | .rt u => ∀ v, VR g m' H' u v → D.rt v H'
def TSv (r : Env' → List Ob → R (Fl × List Ob)) : TS := fun D z H => ∃ m s h, At g q m s h z H ∧ Sat g W m H (r s h) (FPost g q D)
def TIv (r : Env' → List Ob → R (Rn × List Ob)) : TI := fun z H K => ∃ m s h, At g q m s h z H ∧ Sat g W m H (r s h) fun rn _ m' H' => ∀ J, RnR g m' H' rn J → K J H'
def NI (tg iter : Expr) (i : II) : Prop := ∀ n, PI X tg iter (TIv g W q ((evN c hb n).I i))
def NS (st : Stmt) (i : IS) : Prop := ∀ n, PS X st (TSv g W q ((evN c hb n).S i))
def NSs (st : List Stmt) (i : List IS) : Prop := ∀ n, PSs X st (TSv g W q ((evN c hb n).Ss i))
end
section
variable {X : Cx} {g : Gs} {W : WX} {q : Iv g} {c : Cf} {hb : Hbt} {a b d e : Expr} {i j k : IE} {pos : Pos}
theorem NS.mk {st : Stmt} {i : IS} (h : ∀ n, PS X st (TSv g W q (stepS c (evN c hb n) hb i))) : NS X g W q c hb st i
  | 0 => ⟨fun _ _ _ _ _ _ ⟨_, _, _, _, s⟩ => s.no.elim⟩
  | n + 1 => h n
theorem NSs.mk {st : List Stmt} {i : List IS} (h : ∀ n, PSs X st (TSv g W q (stepSs (evN c hb n) i))) : NSs X g W q c hb st i
  | 0 => ⟨fun _ _ _ _ _ _ ⟨_, _, _, _, s⟩ => s.no.elim⟩
  | n + 1 => h n
theorem NI.mk {tg iter : Expr} {i : II} (h : ∀ n, PI X tg iter (TIv g W q (stepI (evN c hb n) i))) : NI X g W q c hb tg iter i
  | 0 => ⟨fun _ _ _ _ _ _ ⟨_, _, _, _, s⟩ => s.no.elim⟩
  | n + 1 => h n
theorem g_name {sl : List Nat} {ix : Nat} (hsl : ix ∈ sl) {x : Str} (hN : X.N.Nodup) (hi : X.N[ix]? = some x) (hx : Loc X.env.scope x) (hf : X.fn x = true ∨ X.env.scope.names.lookup x = some .local) (hp : ∀ p ∈ q.pin, p.1 ≠ ix) : NG X g q sl (.Name x pos) (.nm ix)
  | 0 => (pg_name hN hi hx hf).of fun v σ H Q ⟨m, s, h, u, s', A, r, e, _⟩ => by simp [setT] at e
  | n + 1 => (pg_name hN hi hx hf).of fun v σ H Q ⟨m, s, h, u, s', A, r, e, k⟩ => by
    simp only [setT] at e
    cases e
    exact k _ (A.put r hp) (Only.set hsl)
theorem gs_nil {sl : List Nat} : NGs X g q sl [] []
  | 0 => pgs_nil.of fun v σ H Q ⟨m, s, h, u, s', A, r, e, _⟩ => by simp [setTs] at e
  | n + 1 => pgs_nil.of fun v σ H Q ⟨m, s, h, u, s', A, r, e, k⟩ => by
    cases u with
    | nil =>
      simp only [setTs] at e
      cases e
      exact ⟨r, k _ A (Only.refl _ _)⟩
    | cons x u => simp [setTs] at e
def plainG : Expr → Bool
  | .Name .. => true | .Tuple .. => true
  | _ => false
theorem each_of {t : Expr} (h : plainG t = true) (ts : List Expr) (env : Env) : (assignEach (t :: ts) env).map (·.2) = assign t env :: (assignEach ts env).map (·.2) := by
  cases t <;> first | rfl | cases h
theorem gs_cons {t : Expr} {ts : List Expr} {i : IT} {is : List IT} {sl : List Nat} (hp : plainG t = true) (h1 : NG X g q sl t i) (h2 : NGs X g q sl ts is) : NGs X g q sl (t :: ts) (i :: is)
  | 0 => (pgs_cons (h1 0) (h2 0) (each_of hp _ _)).of fun v σ H Q ⟨m, s, h, u, s', A, r, e, _⟩ => by simp [setTs] at e
  | n + 1 => (pgs_cons (h1 n) (h2 n) (each_of hp _ _)).of fun v σ H Q ⟨m, s, h, u, s', A, r, e, k⟩ => by
    cases u with
    | nil => simp [setTs] at e
    | cons x u =>
      obtain ⟨y, w, rfl, r1, r2⟩ := r
      simp only [setTs] at e
      cases e1 : setT n i x s with
      | none => rw [e1] at e; cases e
      | some s1 =>
        rw [e1] at e
        exact ⟨y, w, rfl, m, s, h, x, s1, A, r1, e1, fun σ1 A1 o1 => ⟨m, s1, h, u, s', A1, r2, e, fun σ2 A2 o2 => k σ2 A2 (o1.trans o2)⟩⟩
theorem each_len {env : Env} : ∀ {ts : List Expr}, ts.all plainG = true → (assignEach ts env).length = ts.length ∧ (assignEach ts env).findIdx? (·.1) = none
  | [], _ => ⟨rfl, rfl⟩
  | t :: ts, h => by
    rw [List.all_cons, Bool.and_eq_true] at h
    obtain ⟨h1, h2⟩ := each_len (env := env) h.2
    have e : assignEach (t :: ts) env = (false, assign t env) :: assignEach ts env := by
      cases t <;> first | rfl | cases h.1
    rw [e]
    refine ⟨by rw [List.length_cons, h1] <;> rfl, ?_⟩
    rw [List.findIdx?_cons]
    simp [h2]
theorem g_tup {ts : List Expr} {is : List IT} {y : Nat} (hK : X.K = g.K) (hc : X.calm = true) (hp : ts.all plainG = true) {sl : List Nat} (hl : ts.length = is.length) (h : NGs X g q sl ts is) : NG X g q sl (.Tuple ts y pos) (.tp is)
  | 0 => (pg_tup hc (h 0) (each_len hp).1 (each_len hp).2).of fun v σ H Q ⟨m, s, h, u, s', A, r, e, _⟩ => by simp [setT] at e
  | n + 1 => (pg_tup hc (h n) (each_len hp).1 (each_len hp).2).of fun v σ H Q ⟨m, s, h, u, s', A, r, e, k⟩ => by
    cases u with
    | tup us =>
      obtain ⟨p, ys, rfl, a, b⟩ := r
      simp only [setT] at e
      have hlen : ∀ (n : Nat) (is : List IT) (us : List Uv) (s s' : Env'), setTs n is us s = some s' → us.length = is.length := by
        intro n
        induction n with
        | zero => intro is us s s' e; simp [setTs] at e
        | succ n ih =>
          intro is us s s' e
          cases is with
          | nil =>
            cases us with
            | nil => rfl
            | cons u us => simp [setTs] at e
          | cons i is =>
            cases us with
            | nil => simp [setTs] at e
            | cons u us =>
              simp only [setTs] at e
              split at e
              · rw [List.length_cons, List.length_cons, ih _ _ _ _ e]
              · cases e
      refine ⟨p, ys, rfl, by rw [hK]; exact a, ?_, m, s, h, us, s', A, b, e, k⟩
      rw [← b.length, hlen _ _ _ _ _ e, hl]
    | _ => simp [setT] at e
/-! ### what loops go over -/
def iSeq (K : PySem.W.Frag) (te : TE) : TI := fun σ H R => te σ H fun x H1 => (∃ a, x = .ref a ∧ (∃ xs, SqL K H1 a xs) ∧ R (Itl K a) H1) ∨ (∃ a, x = .ref a ∧ (∃ xs, SqT K H1 a xs) ∧ R (Itt K a) H1) ∨ ∃ z, x = .str z ∧ R (Its z) H1
theorem pi_seq {tg l : Expr} {tl : TE} (hl : PE X l tl) : PI X tg l (iSeq X.K tl) := by
  refine ⟨fun pins s σ H R I h => ?_⟩
  refine thn (hl.run pins s σ H _ I h) fun v s1 ⟨x, H1, I1, r1, q1⟩ => ?_
  rcases q1 with ⟨a, e, ⟨xs, hq⟩, q⟩ | ⟨a, e, ⟨xs, hq⟩, q⟩ | ⟨z, e, q⟩
  · subst e
    cases r1
    obtain ⟨its, rv, p, hz⟩ := I1.list hq
    exact wpAny_pyIter_list p.isList (pi_one (tk := s1.toks) I1 _ (turn_list a _) ⟨_, Heap.get?_push_size _ rfl, rfl, rfl⟩ q)
  · subst e
    cases r1
    obtain ⟨its, rv, p, hz⟩ := I1.tuple hq
    exact wpAny_pyIter_tuple (show s1.heap.IsTuple a its.toArray from p) (pi_one (tk := s1.toks) I1 _ (turn_tuple a _) ⟨_, Heap.get?_push_size _ rfl, rfl, rfl⟩ q)
  · subst e
    obtain ⟨t, rfl⟩ := r1
    cases ha : z.cps.all (· < 128)
    · exact wpAny_pyIter_wide ha (pi_one (tk := s1.toks) I1 _ (turn_str _ z t "str_iterator" (.inr rfl)) ⟨_, Heap.get?_push_size _ rfl, rfl, rfl⟩ q)
    · exact wpAny_pyIter_ascii ha (pi_one (tk := s1.toks) I1 _ (turn_str _ z t "str_ascii_iterator" (.inl rfl)) ⟨_, Heap.get?_push_size _ rfl, rfl, rfl⟩ q)
theorem _root_.L2.PI.of {X : Cx} {tg e : Expr} {t t' : TI} (h : PI X tg e t) (w : ∀ σ H Q, t' σ H Q → t σ H Q) : PI X tg e t' := ⟨fun pins s σ H R I q => h.run pins s σ H R I (w σ H R q)⟩
theorem i_seq {tg : Expr} (hK : X.K = g.K) (ha : NE X g W q c hb a i) : NI X g W q c hb tg a (.seq i) :=
  .mk fun n => (pi_seq (ha n)).of fun σ H Q ⟨m, s, h, A, S⟩ => ⟨m, s, h, A, (Sat.bind S).imp fun u h1 m1 H1 l1 hr1 S1 v rv => by
    split at S1
    · rename_i xs e
      rw [show u = .tup xs from e] at rv
      obtain ⟨p, ys, rfl, hp, hx⟩ := rv
      exact .inr (.inl ⟨p, rfl, ⟨ys, by rw [hK]; exact hp⟩, by rw [hK]; exact S1.ok0 hr1 _ ⟨p, ys, hp, hx, rfl⟩⟩)
    · rename_i x e
      rw [show u = .str x from e] at rv
      cases rv
      exact .inr (.inr ⟨x, rfl, S1.ok0 hr1 _ rfl⟩)
    · rename_i nn e
      rw [show u = .obj nn from e] at rv
      split at S1
      · rename_i xs e0
        obtain ⟨p, ys, rfl, hn, k1, hx⟩ := hr1.getL rv e0
        exact .inl ⟨p, rfl, ⟨ys, SqL.of k1⟩, by rw [hK]; exact S1.ok0 hr1 _ ⟨p, hn, rfl⟩⟩
      · exact S1.no.elim
    · exact S1.no.elim⟩
theorem i_rng1 {tg : Expr} {x : Str} {p : Pos} (hx : x = "range") (hg : Gl X x) (hm : X.mg x = none) (hp : plainE a = true) (ha : NE X g W q c hb a i) : NI X g W q c hb tg (.Call (.Name x p) [a] [] pos) (.rng1 i) :=
  .mk fun n => by
    subst hx
    refine (pi_range1 hg hm (pa_cons (ha n) pa_nil (star_of hp _ _)) (star_of hp _ _)).of fun σ H Q ⟨m, s, h, A, S⟩ => ⟨m, s, h, A, (Sat.bind S).imp fun u h1 m1 H1 l1 hr1 S1 v rv => ?_⟩
    split at S1
    · rename_i z e
      rw [show u = .int z from e] at rv
      cases rv
      obtain ⟨ct, S1⟩ := ite_satb S1
      rw [Bool.and_eq_true, decide_eq_true_eq, decide_eq_true_eq] at ct
      exact ⟨z, rfl, ct.1, ct.2, S1.ok0 hr1 _ rfl⟩
    · exact S1.no.elim
theorem i_rng2 {tg : Expr} {x : Str} {p : Pos} (hx : x = "range") (hg : Gl X x) (hm : X.mg x = none) (hp : plainE a = true) (hp2 : plainE b = true) (ha : NE X g W q c hb a i) (hb' : NE X g W q c hb b j) : NI X g W q c hb tg (.Call (.Name x p) [a, b] [] pos) (.rng2 i j) :=
  .mk fun n => by
    subst hx
    refine (pi_range2 hg hm (pa_cons (ha n) (pa_cons (hb' n) pa_nil (star_of hp2 _ _)) (star_of hp _ _)) (by rw [star_of hp, star_of hp2] <;> rfl) (star_of hp2 _ _)).of fun σ H Q ⟨m, s, h, A, S⟩ =>
      ⟨m, s, h, A, (Sat.bind S).imp fun u h1 m1 H1 l1 hr1 S1 v rv => ⟨m1, s, h1, A.to l1 hr1, (Sat.bind S1).imp fun u2 h2 m2 H2 l2 hr2 S2 v2 rv2 => ?_⟩⟩
    have rv := VR.mono l2 _ _ rv
    split at S2
    · rename_i z z2 e e2
      rw [show u = .int z from e] at rv
      rw [show u2 = .int z2 from e2] at rv2
      cases rv
      cases rv2
      obtain ⟨ct, S2⟩ := ite_satb S2
      simp only [Bool.and_eq_true, decide_eq_true_eq] at ct
      exact ⟨z, z2, rfl, ⟨ct.1.1.1, ct.1.1.2, ct.1.2, ct.2⟩, S2.ok0 hr2 _ rfl⟩
    · exact S2.no.elim
theorem i_enm {ts : List Expr} {y : Nat} {tp : Pos} {x : Str} {p : Pos} (hK : X.K = g.K) (hx : x = "enumerate") (hg : Gl X x) (hm : X.mg x = none) (hp : plainE a = true) (ha : NE X g W q c hb a i) : NI X g W q c hb (.Tuple ts y tp) (.Call (.Name x p) [a] [] pos) (.enm i) :=
  .mk fun n => by
    subst hx
    refine (pi_enumA hg hm (pa_cons (ha n) pa_nil (star_of hp _ _)) (star_of hp _ _)).of fun σ H Q ⟨m, s, h, A, S⟩ => ⟨m, s, h, A, (Sat.bind S).imp fun u h1 m1 H1 l1 hr1 S1 v rv => ?_⟩
    split at S1
    · rename_i xs e
      rw [show u = .tup xs from e] at rv
      obtain ⟨p, ys, rfl, hp, hx⟩ := rv
      exact ⟨p, ys, rfl, .inr ⟨by rw [hK]; exact hp, by rw [hK]; exact S1.ok0 hr1 _ ⟨p, ys, hp, hx, rfl⟩⟩⟩
    · rename_i nn e
      rw [show u = .obj nn from e] at rv
      split at S1
      · rename_i xs e0
        obtain ⟨p, ys, rfl, hn, k1, hx⟩ := hr1.getL rv e0
        exact ⟨p, ys, rfl, .inl ⟨SqL.of k1, by rw [hK]; exact S1.ok0 hr1 _ ⟨p, hn, rfl⟩⟩⟩
      · exact S1.no.elim
    · exact S1.no.elim
theorem i_zp {ts : List Expr} {y : Nat} {tp : Pos} {x : Str} {p : Pos} (hK : X.K = g.K) (hx : x = "zip") (hg : Gl X x) (hm : X.mg x = none) (hp : plainE a = true) (hp2 : plainE b = true) (ha : NE X g W q c hb a i) (hb' : NE X g W q c hb b j) :
    NI X g W q c hb (.Tuple ts y tp) (.Call (.Name x p) [a, b] [] pos) (.zp i j) :=
  .mk fun n => by
    subst hx
    refine (pi_zipM hg hm (pa_cons (ha n) (pa_cons (hb' n) pa_nil (star_of hp2 _ _)) (star_of hp _ _)) (star_of hp _ _) (any_stars (by rw [List.all_cons, hp2] <;> rfl))).of fun σ H Q ⟨m, s, h, A, S⟩ =>
      ⟨m, s, h, A, (Sat.bind S).imp fun u h1 m1 H1 l1 hr1 S1 v rv => ⟨m1, s, h1, A.to l1 hr1, (Sat.bind S1).imp fun u2 h2 m2 H2 l2 hr2 S2 v2 rv2 => ?_⟩⟩
    have rv := VR.mono l2 _ _ rv
    split at S2
    · rename_i xs zs e e2
      rw [show u = .tup xs from e] at rv
      rw [show u2 = .tup zs from e2] at rv2
      obtain ⟨p, ys, rfl, hp, hx⟩ := rv
      obtain ⟨p', ys', rfl, hp', hx'⟩ := rv2
      exact ⟨p, p', ys, ys', rfl, .inr (.inl ⟨by rw [hK]; exact hp, by rw [hK]; exact hp', by rw [hK]; exact S2.ok0 hr2 _ ⟨p, ys, p', ys', hp, hx, hp', hx', rfl⟩⟩)⟩
    · rename_i n1 n2 e e2
      rw [show u = .obj n1 from e] at rv
      rw [show u2 = .obj n2 from e2] at rv2
      split at S2
      · rename_i xs zs e0 e1
        obtain ⟨p, ys, rfl, hn, k1, hx⟩ := hr2.getL rv e0
        obtain ⟨p', ys', rfl, hn', k1', hx'⟩ := hr2.getL rv2 e1
        exact ⟨p, p', ys, ys', rfl, .inl ⟨SqL.of k1, SqL.of k1', by rw [hK]; exact S2.ok0 hr2 _ ⟨p, p', hn, hn', rfl⟩⟩⟩
      · exact S2.no.elim
    · rename_i n1 zs e e2
      rw [show u = .obj n1 from e] at rv
      rw [show u2 = .tup zs from e2] at rv2
      obtain ⟨p', ys', rfl, hp', hx'⟩ := rv2
      split at S2
      · rename_i xs e0
        obtain ⟨p, ys, rfl, hn, k1, hx⟩ := hr2.getL rv e0
        exact ⟨p, p', ys, ys', rfl, .inr (.inr ⟨false, true, (fun z => nomatch z), SqL.of k1, (by rw [hK]; exact hp'), by rw [hK]; exact S2.ok0 hr2 _ ⟨p, p', ys', hn, hp', hx', rfl⟩⟩)⟩
      · exact S2.no.elim
    · rename_i xs n2 e e2
      rw [show u = .tup xs from e] at rv
      rw [show u2 = .obj n2 from e2] at rv2
      obtain ⟨p, ys, rfl, hp, hx⟩ := rv
      split at S2
      · rename_i zs e0
        obtain ⟨p', ys', rfl, hn', k1', hx'⟩ := hr2.getL rv2 e0
        exact ⟨p, p', ys, ys', rfl, .inr (.inr ⟨true, false, (fun z => nomatch z), (by rw [hK]; exact hp), SqL.of k1', by rw [hK]; exact S2.ok0 hr2 _ ⟨p, ys, p', hp, hx, hn', rfl⟩⟩)⟩
      · exact S2.no.elim
    · exact S2.no.elim
end
end Rf
set_option maxHeartbeats 4000000
namespace Rf
open PySem PySem.Spec PyProof.Rows L2 RfE
theorem Sat.mono {g : Gs} {W : WX} {m m' : List Addr} {H H' : Hp} {α : Type} {r : R (α × List Ob)} {P : α → List Ob → List Addr → Hp → Prop} (x : Sat g W m H r P) (l : Le g m H m' H') : Sat g W m' H' r P :=
  R.all_mono (fun _ hp m2 H2 l2 hr => hp m2 H2 (l.trans l2) hr) (fun _ _ _ _ e => e.mono l) x
theorem some_pss {X : Cx} {st : List Stmt} {t : Nat → TS} (h : ∀ n, PSs X st (t n)) : PSs X st (fun D σ H => ∃ n, t n D σ H) := ⟨fun pins s σ H D I ⟨n, q⟩ => (h n).run pins s σ H D I q⟩
theorem some_pt {X : Cx} {e : Expr} {t : Nat → TT} (h : ∀ n, PT X e (t n)) : PT X e (fun σ H Q => ∃ n, t n σ H Q) := ⟨fun pins s σ H Q I ⟨n, q⟩ => (h n).run pins s σ H Q I q⟩
theorem some_pe {X : Cx} {e : Expr} {t : Nat → TE} (h : ∀ n, PE X e (t n)) : PE X e (fun σ H Q => ∃ n, t n σ H Q) := ⟨fun pins s σ H Q I ⟨n, q⟩ => (h n).run pins s σ H Q I q⟩
theorem _root_.L2.PSet.or {X : Cx} {t t' : TSet} (h : PSet X t) (h' : PSet X t') : PSet X fun o i v H Q => t o i v H Q ∨ t' o i v H Q := by
  intro pins s σ H o i v ov iv u Q I ro ri rv q
  rcases q with q | q
  · exact h pins s σ H o i v ov iv u Q I ro ri rv q
  · exact h' pins s σ H o i v ov iv u Q I ro ri rv q
def noComp : Expr → Bool
  | .ListComp .. => false | .SetComp .. => false | .DictComp .. => false
  | _ => true
theorem swaps_no {e : Expr} (h : noComp e = true) (t : Option Expr) (l : Nat) (env : Env) : swapsWith e t l env = pure false := by
  cases e <;> first | rfl | cases h
def noSet : Expr → Bool
  | .Set .. => false
  | _ => true
def noName : Expr → Bool
  | .Name .. => false
  | _ => true
theorem swaps_other {e t : Expr} (h : noName t = true) (l : Nat) (env : Env) : swapsWith e (some t) l env = pure false := by
  cases t <;> first | (cases e <;> rfl) | cases h
theorem sole_other {e t : Expr} (h : noName t = true) (l : Nat) (env : Env) : swapsWithSole [t] e l env = pure false := swaps_other h l env
section
variable {X : Cx} {g : Gs} {W : WX} {q : Iv g} {c : Cf} {hb : Hbt} {a b d e : Expr} {i j k : IE} {pos : Pos}
theorem s_ex (hs : noComp a = true) (ha : NE X g W q c hb a i) : NS X g W q c hb (.Expr a pos) (.ex i) :=
  .mk fun n => (ps_expr (ha n) (swaps_no hs _ _ _)).of fun D σ H ⟨m, s, h, A, S⟩ => ⟨m, s, h, A, (Sat.bind S).imp fun u h1 m1 H1 l1 hr1 S1 v rv => S1.ok0 hr1 σ (A.to l1 hr1)⟩
theorem s_doc {x : Str} {y : Nat} {p : Pos} : NS X g W q c hb (.Expr (.Constant (.str x) y p) pos) .pass :=
  .mk fun n => ps_doc.of fun D σ H ⟨m, s, h, A, S⟩ => S.ok0 A.hr σ A
theorem s_pass : NS X g W q c hb (.Pass pos) .pass := .mk fun n => ps_pass.of fun D σ H ⟨m, s, h, A, S⟩ => S.ok0 A.hr σ A
theorem s_brk : NS X g W q c hb (.Break pos) .brk := .mk fun n => ps_break.of fun D σ H ⟨m, s, h, A, S⟩ => S.ok0 A.hr σ A
theorem s_cnt : NS X g W q c hb (.Continue pos) .cnt := .mk fun n => ps_continue.of fun D σ H ⟨m, s, h, A, S⟩ => S.ok0 A.hr σ A
theorem s_ret (ha : NE X g W q c hb a i) : NS X g W q c hb (.Return (some a) pos) (.ret i) :=
  .mk fun n => (ps_ret (ha n)).of fun D σ H ⟨m, s, h, A, S⟩ => ⟨m, s, h, A, (Sat.bind S).imp fun u h1 m1 H1 l1 hr1 S1 v rv => S1.ok0 hr1 v rv⟩
theorem s_retN : NS X g W q c hb (.Return none pos) .retN := .mk fun n => ps_retN.of fun D σ H ⟨m, s, h, A, S⟩ => S.ok0 A.hr _ rfl
theorem s_ite {sa sb : List Stmt} {ia ib : List IS} (ht : NT X g W q c hb d k) (ha : NSs X g W q c hb sa ia) (hb' : NSs X g W q c hb sb ib) : NS X g W q c hb (.If d sa sb pos) (.ite k ia ib) :=
  .mk fun n => (ps_if (ht n) (ha n) (hb' n)).of fun D σ H ⟨m, s, h, A, S⟩ => ⟨m, s, h, A, (Sat.bind S).imp fun t h1 m1 H1 l1 hr1 S1 => by
    cases t with
    | true => exact ⟨m1, s, h1, A.to l1 hr1, S1⟩
    | false => exact ⟨m1, s, h1, A.to l1 hr1, S1⟩⟩
theorem ss_nil : NSs X g W q c hb [] [] := .mk fun n => pss_nil.of fun D σ H ⟨m, s, h, A, S⟩ => S.ok0 A.hr σ A
theorem ss_cons {st : Stmt} {r : List Stmt} {is : IS} {ir : List IS} (h1 : NS X g W q c hb st is) (h2 : NSs X g W q c hb r ir) : NSs X g W q c hb (st :: r) (is :: ir) :=
  .mk fun n => (pss_cons (h1 n) (h2 n)).of fun D σ H ⟨m, s, h, A, S⟩ => ⟨m, s, h, A, (Sat.bind S).imp fun f h1 m1 H1 l1 hr1 S1 => by
    cases f with
    | nx s' => exact fun σ' A' => ⟨m1, s', h1, A', S1⟩
    | rt u => exact S1.ok0 hr1
    | bk s' => exact S1.ok0 hr1
    | ct s' => exact S1.ok0 hr1⟩
theorem s_asg {ix : Nat} {x : Str} {px : Pos} (hN : X.N.Nodup) (hi : X.N[ix]? = some x) (hx : Loc X.env.scope x) (hf : X.fn x = true ∨ X.env.scope.names.lookup x = some .local) (hp : ∀ p ∈ q.pin, p.1 ≠ ix) (hs : swapsWith a (some (.Name x px)) pos.line X.env = pure false)
    (ha : NE X g W q c hb a i) : NS X g W q c hb (.Assign [.Name x px] a pos) (.asg (.nm ix) i) :=
  .mk fun n => (ps_set hN hi hx (ha n) hs hf).of fun D σ H ⟨m, s, h, A, S⟩ => ⟨m, s, h, A, (Sat.bind S).imp fun u h1 m1 H1 l1 hr1 S1 v rv => S1.ok0 hr1 _ ((A.to l1 hr1).put rv hp)⟩
theorem s_asgT {sl : List Nat} {ts : List Expr} {y : Nat} {tp : Pos} {it : IT} (hw : swappedStores [.Tuple ts y tp] a X.env = pure none) (hg : NG X g q sl (.Tuple ts y tp) it) (ha : NE X g W q c hb a i) : NS X g W q c hb (.Assign [.Tuple ts y tp] a pos) (.asg it i) :=
  .mk fun n => (ps_asg (ha n) (hg 10) (sole_other rfl _ _) hw rfl).of fun D σ H ⟨m, s, h, A, S⟩ => ⟨m, s, h, A, (Sat.bind S).imp fun u h1 m1 H1 l1 hr1 S1 v rv => by
    split at S1
    · rename_i s' e
      exact ⟨m1, s, h1, u, s', A.to l1 hr1, rv, e, fun σ' A' _ => S1.ok0 hr1 σ' A'⟩
    · exact S1.no.elim⟩
theorem s_par2 {i1 i2 : Nat} {x y : Str} {px py pt : Pos} {kt k2 : Nat} {pt2 : Pos} {is : List IE} (hc : X.calm = true) (hN : X.N.Nodup) (hi : X.N[i1]? = some x) (hj : X.N[i2]? = some y) (hij : i1 ≠ i2) (hx : X.env.scope.names.lookup x = some .local) (hy : X.env.scope.names.lookup y = some .local)
    (hp : ∀ p ∈ q.pin, p.1 ≠ i1 ∧ p.1 ≠ i2) (hw : swappedStores [.Tuple [.Name x px, .Name y py] kt pt] (.Tuple [a, b] k2 pt2) X.env = pure (some [x, y])) (ha : NA X g W q c hb [a, b] is) :
    NS X g W q c hb (.Assign [.Tuple [.Name x px, .Name y py] kt pt] (.Tuple [a, b] k2 pt2) pos) (.par [i1, i2] is) :=
  .mk fun n => (ps_par hc hN hi hj hij hx hy (ha n) hw (sole_other rfl _ _)).of fun D σ H ⟨m, s, h, A, S⟩ => ⟨m, s, h, A, (Sat.bind S).imp fun us h1 m1 H1 l1 hr1 S1 vs rv => by
    obtain ⟨ct, S1⟩ := ite_sat S1
    match us, ct, rv, S1 with
    | [u1, u2], _, rv, S1 =>
      obtain ⟨v1, v2, rfl, r1, r2⟩ := rv.two
      exact ⟨v1, v2, rfl, S1.ok0 hr1 _ (((A.to l1 hr1).put r1 fun p hp' => (hp p hp').1).put r2 fun p hp' => (hp p hp').2)⟩⟩
theorem s_par3 {i1 i2 i3 : Nat} {x y z : Str} {px py pz pt : Pos} {kt k2 : Nat} {pt2 : Pos} {is : List IE} (hc : X.calm = true) (hN : X.N.Nodup) (hi : X.N[i1]? = some x) (hj : X.N[i2]? = some y) (hl : X.N[i3]? = some z) (hij : i1 ≠ i2) (hil : i1 ≠ i3) (hjl : i2 ≠ i3)
    (hx : X.env.scope.names.lookup x = some .local) (hy : X.env.scope.names.lookup y = some .local) (hz : X.env.scope.names.lookup z = some .local)
    (hp : ∀ p ∈ q.pin, p.1 ≠ i1 ∧ p.1 ≠ i2 ∧ p.1 ≠ i3) (hw : swappedStores [.Tuple [.Name x px, .Name y py, .Name z pz] kt pt] (.Tuple [a, b, d] k2 pt2) X.env = pure (some [x, y, z])) (ha : NA X g W q c hb [a, b, d] is) :
    NS X g W q c hb (.Assign [.Tuple [.Name x px, .Name y py, .Name z pz] kt pt] (.Tuple [a, b, d] k2 pt2) pos) (.par [i1, i2, i3] is) :=
  .mk fun n => (ps_par3 hc hN hi hj hl hij hil hjl hx hy hz (ha n) hw (sole_other rfl _ _)).of fun D σ H ⟨m, s, h, A, S⟩ => ⟨m, s, h, A, (Sat.bind S).imp fun us h1 m1 H1 l1 hr1 S1 vs rv => by
    obtain ⟨ct, S1⟩ := ite_sat S1
    match us, ct, rv, S1 with
    | [u1, u2, u3], _, rv, S1 =>
      obtain ⟨v1, t, rfl, r1, rv⟩ := rv
      obtain ⟨v2, v3, rfl, r2, r3⟩ := VRs.two rv
      exact ⟨v1, v2, v3, rfl, S1.ok0 hr1 _ ((((A.to l1 hr1).put r1 fun p hp' => (hp p hp').1).put r2 fun p hp' => (hp p hp').2.1).put r3 fun p hp' => (hp p hp').2.2)⟩⟩
/-- o[i] = v by data, by the abstract heap -/
theorem stI_ok {m : List Addr} {H : Hp} {h h' : List Ob} {o x u : Uv} {va vb v : V} {Q : Hp → Prop} (hr : HR g m H h) (e : stI o x u h = some h') (ro : VR g m H o va) (rx : VR g m H x vb) (ru : VR g m H u v) (k : ∀ H', Le g m H m H' → HR g m H' h' → Q H') :
    (rSetL va vb v H Q ∨ rSetD va vb v H Q) ∨ rSetN g.P g.w g.K va vb v H Q := by
  unfold stI at e
  split at e
  · rename_i n
    split at e
    · rename_i xs e0
      split at e
      · rename_i z
        split at e
        · rename_i jj e2
          cases e
          cases rx
          obtain ⟨p, ys, rfl, hn, k1, hx⟩ := hr.getL ro e0
          have hset := VRs.set ru jj hx
          have L := Le.set (o := .lst (ys.set jj v)) hr hn e0
          exact .inl (.inl ⟨p, ys, z, jj, rfl, rfl, k1, by rw [← hx.length]; exact e2, k _ L (hr.set hn e0 ⟨_, rfl, hset⟩)⟩)
        · cases e
      · cases e
    · obtain ⟨p, H', rfl, hn, L, hr2, q⟩ := putD_ok hr e ro rx ru
      rcases q with ⟨l, kk, k1, rfl, k3, rfl⟩ | ⟨cc, xs, kk, rfl, k1, k2, k3, k4, rfl⟩
      · exact .inl (.inr ⟨p, _, rfl, .inl ⟨l, kk, k1, rfl, k3, rfl⟩, k _ L hr2⟩)
      · exact .inr ⟨p, cc, xs, kk, rfl, rfl, k1, k2, k3, k4, k _ L hr2⟩
  · cases e
theorem okO_sat {α : Type} {m : List Addr} {H : Hp} {a : α} {o : Option (List Ob)} {P : α → List Ob → List Addr → Hp → Prop} (s : Sat g W m H (okO a o) P) : ∃ h', o = some h' ∧ Sat g W m H (.ok (a, h')) P := by
  cases o with
  | none => exact s.no.elim
  | some h' => exact ⟨h', rfl, s⟩
theorem s_put {o x : Expr} {io ix iw : IE} {p2 : Pos} (hK : X.K = g.K) (hP : X.prog = g.P) (hw : X.w = g.w) (hu : X.A.units + 9 < cLine) (hs : noSlice x = true) (ho : NE X g W q c hb o io) (hx : NE X g W q c hb x ix) (ha : NE X g W q c hb a iw) : NS X g W q c hb (.Assign [.Subscript o x p2] a pos) (.put io ix iw) :=
  .mk fun n => (ps_asg (ha n) (pg_sub (ho n) (hx n) ((set_list.or (set_dict (by omega))).or (set_nd hu)) (by intro v; cases x <;> first | rfl | cases hs)) (sole_other rfl _ _) (by cases a <;> rfl) rfl).of fun D σ H ⟨m, s, h, A, S⟩ =>
    ⟨m, s, h, A, (Sat.bind S).imp fun u h1 m1 H1 l1 hr1 S1 v rv => ⟨m1, s, h1, A.to l1 hr1, (Sat.bind S1).imp fun u2 h2 m2 H2 l2 hr2 S2 v2 rv2 => ⟨m2, s, h2, (A.to l1 hr1).to l2 hr2, (Sat.bind S2).imp fun u3 h3 m3 H3 l3 hr3 S3 v3 rv3 => by
      obtain ⟨h', e, S3⟩ := okO_sat S3
      rw [hK, hP, hw]
      exact stI_ok hr3 e (VR.mono l3 _ _ rv2) rv3 (VR.mono (l2.trans l3) _ _ rv) fun H' L hr4 => S3 m3 H' L hr4 σ ((((A.to l1 hr1).to l2 hr2).to l3 hr3).to L hr4)⟩⟩⟩
theorem s_aug {ix : Nat} {x : Str} {px : Pos} {o : Operator} (hN : X.N.Nodup) (hi : X.N[ix]? = some x) (hx : Loc X.env.scope x) (hf : X.fn x = true ∨ X.env.scope.names.lookup x = some .local) (hp : ∀ p ∈ q.pin, p.1 ≠ ix) (ho : o = .Add ∨ o = .Sub)
    (ha : NE X g W q c hb a i) : NS X g W q c hb (.AugAssign (.Name x px) o a pos) (.aug ix o i) :=
  .mk fun n => by
    rcases ho with rfl | rfl
    · refine (ps_aug hN hi hx (ha n) (ti := fun x y H Q => (rI0 fun i j => .int (i + j)) x y H Q) iop_add hf).of fun D σ H ⟨m, s, h, A, S⟩ => ?_
      simp only [stepS] at S
      split at S
      · rename_i z e
        obtain ⟨v, e1, rv⟩ := A.sr.2 _ _ e
        cases rv
        refine ⟨_, e1, m, s, h, A, S.bind.imp fun u h1 m1 H1 l1 hr1 S1 v rv => ?_⟩
        split at S1
        · rename_i y e2 _
          rw [show u = .int y from e2] at rv
          cases rv
          exact ⟨z, y, rfl, rfl, S1.ok0 hr1 _ ((A.to l1 hr1).put rfl hp)⟩
        · rename_i e2; cases e2
        · exact S1.no.elim
      · exact S.no.elim
    · refine (ps_aug hN hi hx (ha n) (ti := fun x y H Q => (rI0 fun i j => .int (i - j)) x y H Q) iop_sub hf).of fun D σ H ⟨m, s, h, A, S⟩ => ?_
      simp only [stepS] at S
      split at S
      · rename_i z e
        obtain ⟨v, e1, rv⟩ := A.sr.2 _ _ e
        cases rv
        refine ⟨_, e1, m, s, h, A, S.bind.imp fun u h1 m1 H1 l1 hr1 S1 v rv => ?_⟩
        split at S1
        · rename_i e2; cases e2
        · rename_i y e2 _
          rw [show u = .int y from e2] at rv
          cases rv
          exact ⟨z, y, rfl, rfl, S1.ok0 hr1 _ ((A.to l1 hr1).put rfl hp)⟩
        · exact S1.no.elim
      · exact S.no.elim
theorem s_for {sl : List Nat} {tg iter : Expr} {body : List Stmt} {t : IT} {it : II} {ib : List IS} (hp : PassesOwn (model X.prog X.w) X.A X.env X.xe) (hc : X.calm = true) (hs : noSet iter = true) (hi : NI X g W q c hb tg iter it) (hg : NG X g q sl tg t) (hb' : NSs X g W q c hb body ib) :
    NS X g W q c hb (.For tg iter body [] pos) (.forI t it ib) :=
  .mk fun n => (ps_for hp hc (hi n) (hg 10) (some_pss hb') (by intro x; cases iter <;> first | rfl | cases hs)).of fun D σ H ⟨m, s, h, A, S⟩ =>
    ⟨m, s, h, A, (Sat.bind S).imp fun rn h1 m1 H1 l1 hr1 S1 J hJ => by
      refine ⟨fun i k σ H => ∃ m s h, At g q m s h σ H ∧ RnR g m H rn J ∧ Sat g W m H ((evN c hb k).F t ib rn i s h) (FPost g q D), ⟨n, m1, s, h1, A.to l1 hr1, hJ, S1⟩, ?_⟩
      rintro i k σ H ⟨m, s, h, A, hJ, S⟩
      cases k with
      | zero => exact S.no.elim
      | succ k =>
        have S : Sat g W m H (stepF (evN c hb k) t ib rn i s h) (FPost g q D) := S
        unfold stepF at S
        split at S
        · exact S.no.elim
        · rename_i e
          exact .inl ⟨at_stop hJ A.hr e, S.ok0 A.hr σ A⟩
        · rename_i u e
          obtain ⟨g1, g2⟩ := at_go hJ A.hr e
          refine .inr ⟨g1, fun σ' H' => ∃ m s h, At g q m s h σ' H' ∧ RnR g m H' rn J ∧ Sat g W m H' ((evN c hb k).F t ib rn (i + 1) s h) (FPost g q D), fun σ' H' w => ⟨k, Nat.lt_succ_self k, w⟩, fun x H' y => ?_⟩
          obtain ⟨m', l', hr', rv⟩ := g2 x H' y
          split at S
          · exact S.no.elim
          · rename_i s' e'
            refine ⟨m', s, h, u, s', A.to l' hr', rv, e', fun σ' A' _ => ⟨k, m', s', h, A', ((Sat.bind S).mono l').imp fun f h2 m2 H2 l2 hr2 S2 => ?_⟩⟩
            cases f with
            | nx s2 => exact fun σ2 A2 => ⟨m2, s2, h2, A2, (hJ.mono l').mono l2, S2⟩
            | ct s2 => exact fun σ2 A2 => ⟨m2, s2, h2, A2, (hJ.mono l').mono l2, S2⟩
            | bk s2 => exact S2.ok0 hr2
            | rt u => exact S2.ok0 hr2⟩
theorem s_whl {body : List Stmt} {ib : List IS} (hp : PassesOwn (model X.prog X.w) X.A X.env X.xe) (ht : NT X g W q c hb d k) (hb' : NSs X g W q c hb body ib) : NS X g W q c hb (.While d body [] pos) (.whl k ib) :=
  .mk fun n => (ps_while hp (some_pt ht) (some_pss hb')).of fun D σ H ⟨m, s, h, A, S⟩ => by
      refine ⟨fun n σ H => ∃ m s h, At g q m s h σ H ∧ Sat g W m H ((evN c hb n).Wh k ib s h) (FPost g q D), ⟨n, m, s, h, A, S⟩, ?_⟩
      rintro n σ H ⟨m, s, h, A, S⟩
      cases n with
      | zero => exact S.no.elim
      | succ n =>
        refine ⟨n, m, s, h, A, (Sat.bind S).imp fun t h1 m1 H1 l1 hr1 S1 => ?_⟩
        cases t with
        | false => exact S1.ok0 hr1 σ (A.to l1 hr1)
        | true =>
          refine ⟨fun σ' H' => ∃ m s h, At g q m s h σ' H' ∧ Sat g W m H' ((evN c hb n).Wh k ib s h) (FPost g q D), fun σ' H' w => ⟨n, Nat.lt_succ_self n, w⟩, n, m1, s, h1, A.to l1 hr1, (Sat.bind S1).imp fun f h2 m2 H2 l2 hr2 S2 => ?_⟩
          cases f with
          | nx s2 => exact fun σ2 A2 => ⟨m2, s2, h2, A2, S2⟩
          | ct s2 => exact fun σ2 A2 => ⟨m2, s2, h2, A2, S2⟩
          | bk s2 => exact S2.ok0 hr2
          | rt u => exact S2.ok0 hr2
end
end Rf
set_option maxHeartbeats 4000000
namespace Rf
open PySem PySem.Spec PyProof.Rows L2 RfE
/-! ### dict comprehensions: keys of any kind, one clause or two -/
/-- d[y] = z in the abstract heap, the keys carried by value or nested -/
def DPutG (P : Program) (w : World) (K : PySem.W.Frag) (H : Hp) (D : Addr) (y z : V) (H' : Hp) : Prop :=
  (∃ l k, H D = some (.dK l) ∧ y = kV k ∧ l.length < sizeLine ∧ H' = upd H D (.dK (putK l k z))) ∨
  ∃ c xs k, y = .ref c ∧ NdAt P w K H D xs ∧ NkV K H k (.ref c) ∧ k.depth ≤ 8 ∧ xs.length < sizeLine ∧ H' = upd H D (NdO P w D (putN xs k c z))
theorem dictSetG {X : Cx} {pins : List (Addr × Obj)} {σ : L2.St} {H H' : Hp} {s : Shared} {E : Value → Shared → Prop} {D : Addr} {y z : V} {u r : Value} {Q : Unit → Shared → Prop} (hu : X.A.units + 9 < cLine) (I : Inv X pins σ H s) (h : DPutG X.prog X.w X.K H D y z H') (ry : RelV y u) (rz : RelV z r) (q : ∀ s', Inv X pins σ H' s' → Q () s') :
    wpAny (model X.prog X.w) X.A (dictSet D u r) Q E s := by
  rcases h with ⟨l, k, h1, rfl, h2, rfl⟩ | ⟨c, xs, k, rfl, h1, h2, h3, h4, rfl⟩
  · exact d_dictSet I h1 h2 ry rz q
  · cases ry
    exact nd_dictSet hu I h1 h2 h3 h4 rz q
/-- the blocks that a comprehension may run in -/
abbrev BlkAt (X : Cx) (scope : Scope) (Y : Cx) : Prop := ∃ (s : Shared) (H : Hp) (C : Addr) (cl : List (Str × Addr)) (fp : List Addr), Y = X.blk s H scope (compEnvC scope cl C X.env) fp
/-- what a turn does behind its tests, from a state to states -/
abbrev BodyW := Addr → Env → Shared → (Shared → Prop) → Prop
/-- the loop of the first clause of the comprehension e, told of its turns -/
def LoopBy (X : Cx) (e tg : Expr) (ifs : List Expr) (Bw : BodyW) : Prop := ∀ (I : Nat → Shared → Prop) (R : Result → Shared → Prop) (itv : Value) (D : Addr) (ce : Env) (s : Shared) (n : Nat),
  (∀ n s, I n s → wpAny (model X.prog X.w) X.A (pyNext itv) (fun r s₁ => match r with
    | none => R (.ok .next) s₁
    | some v => wpAny (model X.prog X.w) X.A (letOwnedTupleGo tg itv v) (fun _ s₂ => wpAny (model X.prog X.w) X.A (assign tg ce v) (fun _ s₃ =>
        wpAny (model X.prog X.w) X.A (forIn ifs true fun c r => if r = true then do let ok ← isTrue c ce (eval c ce); pure (ForInStep.yield ok) else pure (ForInStep.yield r)) (fun ok s₄ =>
          if ok = true then Bw D ce s₄ (fun s₅ => ∃ m, m < n ∧ I m s₅) else ∃ m, m < n ∧ I m s₄) (fun _ _ => False) s₃) (fun _ _ => False) s₂) (fun _ _ => False) s₁) (fun _ _ => False) s) →
  I n s → codeAny (model X.prog X.w) X.A (.compLoop e 0 itv (.ref D) ce) R s
/-- a body's reading: D the dict, Nx what the turn's end is to be -/
abbrev TBody := L2.St → Hp → Addr → (Hp → Prop) → Prop
def BodyBy (X : Cx) (scope : Scope) (vs : List Nat) (Bw : BodyW) (tb : TBody) : Prop := ∀ (s0 : Shared) (H0 : Hp) (C : Addr) (cl : List (Str × Addr)) (fp : List Addr) (pins : List (Addr × Obj)) (s : Shared) (σ : L2.St) (H : Hp) (D : Addr) (Nx : Hp → Prop) (P : Shared → Prop),
  Inv (X.blk s0 H0 scope (compEnvC scope cl C X.env) fp) pins σ H s → tb σ H D Nx →
  (∀ (σ' : L2.St) (H' : Hp) (s' : Shared), Inv (X.blk s0 H0 scope (compEnvC scope cl C X.env) fp) pins σ' H' s' → σ'.length = σ.length → (∀ (j : Nat) (v : V), j ∉ vs → σ[j]? = some (some v) → σ'[j]? = some (some v)) → Nx H' → P s') → Bw D (compEnvC scope cl C X.env) s P
/-- {..: .. for tg in iter if .. ..} -/
def tDG (wi : TI) (g : TG) (tt : TT) (tb : TBody) (vs : List Nat) : TE := fun σ H Q => wi σ H fun J H1 => ∀ D, H1 D = none → ∃ W : Nat → Nat → Hp → Prop, (∃ m, W 0 m (upd H1 D (.dK []))) ∧ ∀ i m H, W i m H →
  (J.stop i H ∧ Q (.ref D) H) ∨ (J.go i H ∧ ∃ Nx : Hp → Prop, (∀ H', Nx H' → ∃ m', m' < m ∧ W (i + 1) m' H') ∧ ∀ x H', J.yld i H x H' → g x (wipe σ vs) H' fun σ2 H2 => wipe σ2 vs = wipe σ vs ∧ tt σ2 H2 fun b H3 => if b = true then tb σ2 H3 D Nx else Nx H3)
/-- in every block of that scope -/
def InB (X : Cx) (scope : Scope) (Y : Cx → Prop) : Prop := ∀ (s : Shared) (H : Hp) (C : Addr) (cl : List (Str × Addr)) (fp : List Addr), Y (X.blk s H scope (compEnvC scope cl C X.env) fp)
theorem wipe_in {σ : L2.St} {i : Nat} {x : V} : ∀ {vs : List Nat}, i ∉ vs → σ[i]? = some (some x) → (wipe σ vs)[i]? = some (some x) := fun h e => by
  rw [wipe_out h]; exact e
section
variable {X : Cx}
theorem dG_core {pins : List (Addr × Obj)} {s : Shared} {σ : L2.St} {H : Hp} {Q : VK} {kx vx tg iter : Expr} {ifs : List Expr} {more : List Comprehension} {scope : Scope} {own : List (Str × Nat)} {pos pos' : Pos} {wi : TI} {g : TG} {tt : TT} {tb : TBody} {Bw : BodyW} {use : Option (Value → Sem Unit)} {Qf : Value → Shared → Prop}
    (calm : X.calm = true) (nd : X.N.Nodup) (I : Inv X pins σ H s) (hi : PI X tg iter wi) (ok : BlkOk X.N X.env.scope scope own)
    (hg : InB X scope fun Y => PG Y tg g) (ht : InB X scope fun Y => PTs Y ifs tt) (hL : LoopBy X (.DictComp kx vx (⟨tg, iter, ifs, 0⟩ :: more) scope pos) tg ifs Bw) (hB : BodyBy X scope (own.map (·.2)) Bw tb) (plain : ∀ x, foldedSetIterable iter X.env x = pure x)
    (h : tDG wi g tt tb (own.map (·.2)) σ H Q)
    (fin : ∀ D C s' m H', Inv X pins σ H' s' → Q (.ref D) H' → s'.heap.Ns C m → FpOk X pins H' C → compPost (model X.prog X.w) X.A X.xe use Qf (.ref D) C (.ok .next) s') :
    wpAny (model X.prog X.w) X.A (comprehension (.DictComp kx vx (⟨tg, iter, ifs, 0⟩ :: more) scope pos) scope X.env pos' newDict false (eval iter X.env) use) Qf X.xe s := by
  have frees : ∀ y ∈ scope.names, y.2 = .free → ∃ c, X.env.cells.lookup y.1 = some c := fun y hy e => (ok.free y hy e).elim (fun z => I.ok.has _ (.inl z)) fun z => I.ok.has _ (.inr z)
  refine wpAny_comprehension_free (use := use) rfl plain (closure_ok frees) ok.kind (fun y hy e => by rw [ok.uniq y hy, e])
    (thn (hi.run pins s σ H _ I h) fun xv sa qa => thn qa fun itv sb qb => ?_)
  obtain ⟨it, fp, tn, J, Hb, rfl, Ib, T, stb, fpb, qb⟩ := qb
  refine wpAny_newObj_type (newEnv_comp ?_)
  generalize eD : sb.heap.objs.size = D
  obtain ⟨W, ⟨m0, w0⟩, turn⟩ := qb D (Ib.hok.fresh (Nat.le_of_eq eD))
  generalize esc : ({ sb with heap := sb.heap.push { cls := .type "dict", data := .dict #[] } } : Shared) = sc
  have hsc : sc.heap = sb.heap.push { cls := .type "dict", data := .dict #[] } := by rw [← esc]
  have up : ∀ b o, sb.heap.get? b = some o → sc.heap.get? b = some o := fun b o e => by rw [hsc]; exact Heap.get?_push_of_some _ e
  have Ic : Inv X pins σ (upd Hb D (.dK [])) sc := by
    rw [← esc]
    refine Ib.laid (t' := sb.toks) (fun b o e => Heap.get?_push_of_some _ e) (Nat.le_of_eq eD) ?_
    rw [← eD]
    exact dk_empty sb.heap Ib.big
  have small : ∀ b ∈ fp, b < sb.heap.objs.size := fun b hb => let ⟨o, e, _⟩ := T.obj _ _ stb b hb; Heap.lt_size e
  have fpc : ∀ b ∈ fp, FpOk X pins (upd Hb D (.dK [])) b ∧ b < sc.heap.objs.size := fun b hb =>
    ⟨⟨by rw [upd_ne (by rw [← eD]; exact Nat.ne_of_lt (small b hb))]; exact (fpb b hb).1, (fpb b hb).2⟩, by rw [hsc, Heap.size_push]; exact Nat.lt_succ_of_lt (small b hb)⟩
  have Id := block_start Ic ok nd fpc
  generalize eC : sc.heap.objs.size = C at Id ⊢
  generalize ecl : cellsFrom (C + 1) scope.names (cloFrom X.env.cells scope.names []) = cl at Id ⊢
  generalize esd : ({ sc with heap := pushCells (sc.heap.push { cls := .type "dict", data := .dict #[] }) scope.names } : Shared) = sd at Id ⊢
  have std : tn 0 sd.heap := T.keep _ _ _ stb fun b _ o e => by rw [← esd]; exact pushCells_keeps _ _ _ _ (Heap.get?_push_of_some _ (up b o e))
  generalize eHc : upd Hb D (.dK []) = Hc at Ic Id w0 fpc
  have pg := hg sc Hc C cl fp
  have pt := ht sc Hc C cl fp
  have cL : (compEnvC scope cl C X.env).locals = C := rfl
  have stat : ∀ {σ' : L2.St} {H' : Hp} {s' : Shared}, Inv (X.blk sc Hc scope (compEnvC scope cl C X.env) fp) [] σ' H' s' → (∀ b ∈ fp, H' b = none) → ∀ b ∈ fp, FpOk (X.blk sc Hc scope (compEnvC scope cl C X.env) fp) [] H' b := fun {σ' H' s'} I' hn b hb => by
    exact ⟨hn b hb, (I'.ok.exf b hb).1, I'.ok.exfs b hb, .inl hb, fun x c e => (I'.ok.exf b hb).2 x c e, fun p hp => absurd (show p ∈ ([] : List (Addr × Obj)) ++ [] from hp) (by simp)⟩
  have loop : codeAny (model X.prog X.w) X.A (.compLoop (.DictComp kx vx (⟨tg, iter, ifs, 0⟩ :: more) scope pos) 0 (.ref it) (.ref D) (compEnvC scope cl C X.env)) (compPost (model X.prog X.w) X.A X.xe use Qf (.ref D) C) sd := by
    refine hL (fun n s' => ∃ i H', Inv (X.blk sc Hc scope (compEnvC scope cl C X.env) fp) [] (wipe σ (own.map (·.2))) H' s' ∧ tn i s'.heap ∧ (∀ b ∈ fp, H' b = none) ∧ W i n H') _ _ _ _ _ m0 ?_ ⟨0, Hc, Id, std, fun b hb => (fpc b hb).1.1, w0⟩
    rintro n se ⟨i, He, Ie, ste, ne, we⟩
    rcases turn i n He we with ⟨stop, qq⟩ | ⟨go, Nx, hNx, step⟩
    · have td := T.done (X.blk sc Hc scope (compEnvC scope cl C X.env) fp) rfl rfl rfl calm i [] se _ He (fun _ _ => False) Ie (stat Ie ne) ste stop
      refine thnF td fun r sf ⟨hr, If⟩ => ?_
      subst hr
      have Ig : Inv X pins σ He sf := by
        exact Ic.call' (ch := fp) If.os If.base If.hok If.bare fun b hb => ⟨(fpc b hb).1.2.2.2.1, (fpc b hb).1.2.1, (fpc b hb).1.2.2.2.2.1, (fpc b hb).1.2.2.2.2.2⟩
      have nC : He C = none := If.free
      obtain ⟨m, hn, _⟩ := If.loc
      have hn : sf.heap.Ns C m := hn
      exact fin D C sf m He Ig qq hn (Ic.fpOk (Nat.le_of_eq eC) nC)
    · have ti := T.item (X.blk sc Hc scope (compEnvC scope cl C X.env) fp) rfl rfl rfl calm i [] se _ He (fun _ _ => False) Ie (stat Ie ne) ste go
      refine thnF ti fun r sf ⟨u, hr, h6⟩ => ?_
      subst hr
      refine thnF h6 fun _ sg ⟨x, Hg, Ig, rg, yg, stg, ng⟩ => ?_
      have Ig' := Ig.pinned (stat Ig ng) (T.obj _ _ stg)
      have a1 := pg.run _ sg _ Hg x u _ Ig' rg (step x Hg yg)
      refine thnF a1 fun _ sh ⟨σh, Hh, Ih, hwh, qh⟩ => ?_
      have a2 := pt.run _ sh σh Hh _ Ih qh
      refine thnF a2 fun b si ⟨Hi, Ii, qi⟩ => ?_
      have ends : ∀ {σ9 : L2.St} {s' : Shared} {H' : Hp}, Inv (X.blk sc Hc scope (compEnvC scope cl C X.env) fp) ([] ++ pinsAt fp sg.heap) σ9 H' s' → σ9.length = σh.length → (∀ (j : Nat) (v : V), j ∉ own.map (·.2) → σh[j]? = some (some v) → σ9[j]? = some (some v)) → Nx H' →
          ∃ m, m < n ∧ ∃ i H', Inv (X.blk sc Hc scope (compEnvC scope cl C X.env) fp) [] (wipe σ (own.map (·.2))) H' s' ∧ tn i s'.heap ∧ (∀ b ∈ fp, H' b = none) ∧ W i m H' := fun {σ9 s' H'} I' hl hk nx => by
        obtain ⟨m', hm, w'⟩ := hNx H' nx
        have kept : ∀ b ∈ fp, ∀ o, sg.heap.get? b = some o → s'.heap.get? b = some o ∧ H' b = none := fun b hb o e =>
          let z := I'.pin (b, o) (List.mem_append_right _ (List.mem_append_right _ (mem_pinsAt hb e)))
          ⟨z.1, z.2.1⟩
        refine ⟨m', hm, i + 1, H', (I'.unpinned (pins := [])).weak (by rw [← hwh, wipe_length, hl]) (fun j v e => ?_), T.keep _ _ _ stg fun b hb o e => (kept b hb o e).1, fun b hb => let ⟨o, e, _⟩ := T.obj _ _ stg b hb; (kept b hb o e).2, w'⟩
        rw [← hwh] at e
        obtain ⟨e1, e2⟩ := wipe_some e
        exact hk j v e2 e1
      cases b with
      | false =>
        simp only [Bool.false_eq_true, if_false] at qi ⊢
        exact ends Ii rfl (fun _ _ _ e => e) qi
      | true =>
        simp only [if_true] at qi ⊢
        exact hB sc Hc C cl fp _ si σh Hi D Nx _ Ii qi fun σ' H' s' I' hl hk nx => ends I' hl hk nx
  show codeAny _ _ (.compStart (.DictComp kx vx (⟨tg, iter, ifs, 0⟩ :: more) scope pos) 0 (.ref it) (.ref D) (compEnvC scope cl C X.env)) _ _
  exact codeAny_compStart_dict loop (T.self X.A 0 _ _ _ std loop)
end
end Rf
set_option maxHeartbeats 4000000
namespace Rf
open PySem PySem.Spec PyProof.Rows L2 RfE
/-! ### one clause -/
abbrev noE : Value → Shared → Prop := fun _ _ => False
theorem wE {α : Type} {M : Model} {A : Around} {t : Sem α} {Q Q' : α → Shared → Prop} {E : Value → Shared → Prop} {s : Shared} (h : wpAny M A t Q noE s) (k : ∀ a s, Q a s → Q' a s) : wpAny M A t Q' E s := wpAny_mono h k fun _ _ z => z.elim
/-- a key, a value, a store -/
def Bw1 (X : Cx) (kx vx : Expr) : BodyW := fun D ce s P => wpAny (model X.prog X.w) X.A (eval kx ce) (fun u s1 => wpAny (model X.prog X.w) X.A (eval vx ce) (fun r s2 => wpAny (model X.prog X.w) X.A (dictSet D u r) (fun _ s3 => P s3) noE s2) noE s1) noE s
def tb1 (P : Program) (w : World) (K : PySem.W.Frag) (tk tv : TE) : TBody := fun σ H D Nx => tk σ H fun y H1 => tv σ H1 fun z H2 => ∃ H3, DPutG P w K H2 D y z H3 ∧ Nx H3
section
variable {X : Cx} {kx vx tg iter tg1 iter1 : Expr} {ifs ifs1 : List Expr} {scope : Scope} {pos : Pos}
theorem loop1 : LoopBy X (.DictComp kx vx [⟨tg, iter, ifs, 0⟩] scope pos) tg ifs (Bw1 X kx vx) := fun I R itv D ce s n turn h => by
  refine compLoop_anyD I (fun n s hI => wE (turn n s hI) fun r s1 h1 => ?_) n h
  cases r with
  | none => exact h1
  | some v =>
    refine wE h1 fun _ s2 h2 => wE h2 fun _ s3 h3 => wE h3 fun b s4 h4 => ?_
    cases b with
    | false => exact h4
    | true => exact wE h4 fun u s5 h5 => wE h5 fun r s6 h6 => wE h6 fun _ s7 h7 => h7
theorem body1 {tk tv : TE} {vs : List Nat} (hu : X.A.units + 9 < cLine) (hk : InB X scope fun Y => PE Y kx tk) (he : InB X scope fun Y => PE Y vx tv) : BodyBy X scope vs (Bw1 X kx vx) (tb1 X.prog X.w X.K tk tv) := fun s0 H0 C cl fp pins s σ H D Nx P I h k =>
  wE ((hk s0 H0 C cl fp).run pins s σ H _ I h) fun u s1 ⟨y, H1, I1, r1, q1⟩ => wE ((he s0 H0 C cl fp).run pins s1 σ H1 _ I1 q1) fun r s2 ⟨z, H2, I2, r2, H3, q2, nx⟩ =>
    dictSetG (X := X.blk s0 H0 scope (compEnvC scope cl C X.env) fp) hu I2 q2 r1 r2 fun s3 I3 => k σ H3 s3 I3 rfl (fun _ _ _ e => e) nx
/-! ### two clauses -/
theorem turnOut (it : Value) (D : Addr) (env : Env) : compTurn (.DictComp kx vx [⟨tg, iter, ifs, 0⟩, ⟨tg1, iter1, ifs1, 0⟩] scope pos) 0 it (.ref D) env = (do
    standAt iter.pos
    match ← pyNext it with
    | none => pure (.done .next)
    | some v => do
      letOwnedTupleGo tg it v
      assign tg env v
      let mut yes := true
      for c in ifs do
        if yes then yes ← isTrue c env (eval c env)
      if yes then
        let z ← eval iter1 env
        standAt iter1.pos
        let z ← foldedSetIterable iter1 env z
        let _ ← runOwn (.compStart (.DictComp kx vx [⟨tg, iter, ifs, 0⟩, ⟨tg1, iter1, ifs1, 0⟩] scope pos) 1 (← holding [z] (pyIter z)) (.ref D) env) env
      again (.compLoop (.DictComp kx vx [⟨tg, iter, ifs, 0⟩, ⟨tg1, iter1, ifs1, 0⟩] scope pos) 0 it (.ref D) env)) := by rfl
theorem turnIn (it : Value) (D : Addr) (env : Env) : compTurn (.DictComp kx vx [⟨tg, iter, ifs, 0⟩, ⟨tg1, iter1, ifs1, 0⟩] scope pos) 1 it (.ref D) env = (do
    standAt iter1.pos
    match ← pyNext it with
    | none => pure (.done .next)
    | some v => do
      letOwnedTupleGo tg1 it v
      assign tg1 env v
      let mut yes := true
      for c in ifs1 do
        if yes then yes ← isTrue c env (eval c env)
      if yes then
        (do
          let u ← eval kx env
          let r ← holding [u] (eval vx env)
          standAt { kx.pos with endLine := vx.pos.endLine, endCol := vx.pos.endCol }
          holding [u, r] (dictSet D u r))
      again (.compLoop (.DictComp kx vx [⟨tg, iter, ifs, 0⟩, ⟨tg1, iter1, ifs1, 0⟩] scope pos) 1 it (.ref D) env)) := by rfl
/-- the second clause's own loop -/
def Bw2 (X : Cx) (e iter1 : Expr) : BodyW := fun D ce s P => wpAny (model X.prog X.w) X.A (eval iter1 ce) (fun z s1 => wpAny (model X.prog X.w) X.A (pyIter z) (fun it1 s2 =>
  codeAny (model X.prog X.w) X.A (.compStart e 1 it1 (.ref D) ce) (fun r s' => match r with
    | .ok _ => P s'
    | .error _ => False) s2) noE s1) noE s
theorem loop2 (plain : ∀ env x, foldedSetIterable iter1 env x = pure x) : LoopBy X (.DictComp kx vx [⟨tg, iter, ifs, 0⟩, ⟨tg1, iter1, ifs1, 0⟩] scope pos) tg ifs (Bw2 X (.DictComp kx vx [⟨tg, iter, ifs, 0⟩, ⟨tg1, iter1, ifs1, 0⟩] scope pos) iter1) := fun I R itv D ce s n turn h => by
  refine codeAny_loop rfl I (fun n s hI => ?_) n h
  show wpAny _ X.A ((compTurn (.DictComp kx vx [⟨tg, iter, ifs, 0⟩, ⟨tg1, iter1, ifs1, 0⟩] scope pos) 0 itv (.ref D) ce).onRaise (fun x => do noteFrame x ce; theTreesLotGoes x)) _ _ s
  refine wpAny_noted ?_
  rw [turnOut]
  refine wpAny_bind (wpAny_standAt (wpAny_bind (wE (turn n s hI) fun r s1 h1 => ?_)))
  cases r with
  | none => exact wpAny_pure h1
  | some v =>
    refine wpAny_bind (wE h1 fun _ s2 h2 => wpAny_bind (wE h2 fun _ s3 h3 => wpAny_bind (wE h3 fun b s4 h4 => ?_)))
    cases b with
    | false => exact wpAny_pure ⟨rfl, h4⟩
    | true =>
      refine wpAny_bind (wE h4 fun z s5 h5 => wpAny_bind (wpAny_standAt (wpAny_bind (wpAny_of_eq (plain ce z) (wpAny_bind (wpAny_holding (wE h5 fun it1 s6 h6 => ?_)))))))
      refine wpAny_bind (wpAny_runOwn ?_)
      rw [Around.mark_none]
      refine codeAny_mono h6 fun r s' hr => ?_
      cases r with
      | ok f =>
        first
          | exact wpAny_pure ⟨rfl, hr⟩
          | exact wpAny_bind (wpAny_pure (wpAny_pure ⟨rfl, hr⟩))
      | error e => exact hr.elim
theorem loopIn (I : Nat → Shared → Prop) (R : Result → Shared → Prop) (itv : Value) (D : Addr) (ce : Env) (s : Shared) (n : Nat)
    (turn : ∀ n s, I n s → wpAny (model X.prog X.w) X.A (pyNext itv) (fun r s₁ => match r with
      | none => R (.ok .next) s₁
      | some v => wpAny (model X.prog X.w) X.A (letOwnedTupleGo tg1 itv v) (fun _ s₂ => wpAny (model X.prog X.w) X.A (assign tg1 ce v) (fun _ s₃ =>
          wpAny (model X.prog X.w) X.A (forIn ifs1 true fun c r => if r = true then do let ok ← isTrue c ce (eval c ce); pure (ForInStep.yield ok) else pure (ForInStep.yield r)) (fun ok s₄ =>
            if ok = true then Bw1 X kx vx D ce s₄ (fun s₅ => ∃ m, m < n ∧ I m s₅) else ∃ m, m < n ∧ I m s₄) (fun _ _ => False) s₃) (fun _ _ => False) s₂) (fun _ _ => False) s₁) (fun _ _ => False) s) (h : I n s) :
    codeAny (model X.prog X.w) X.A (.compLoop (.DictComp kx vx [⟨tg, iter, ifs, 0⟩, ⟨tg1, iter1, ifs1, 0⟩] scope pos) 1 itv (.ref D) ce) R s := by
  refine codeAny_loop rfl I (fun n s hI => ?_) n h
  show wpAny _ X.A ((compTurn (.DictComp kx vx [⟨tg, iter, ifs, 0⟩, ⟨tg1, iter1, ifs1, 0⟩] scope pos) 1 itv (.ref D) ce).onRaise (fun x => do noteFrame x ce; theTreesLotGoes x)) _ _ s
  refine wpAny_noted ?_
  rw [turnIn]
  refine wpAny_bind (wpAny_standAt (wpAny_bind (wE (turn n s hI) fun r s1 h1 => ?_)))
  cases r with
  | none => exact wpAny_pure h1
  | some v =>
    refine wpAny_bind (wE h1 fun _ s2 h2 => wpAny_bind (wE h2 fun _ s3 h3 => wpAny_bind (wE h3 fun b s4 h4 => ?_)))
    cases b with
    | false => exact wpAny_pure ⟨rfl, h4⟩
    | true =>
      have h4 : Bw1 X kx vx D ce s4 (fun s₅ => ∃ m, m < n ∧ I m s₅) := h4
      exact wpAny_bind (wpAny_bind (wE h4 fun u s5 h5 => wpAny_bind (wpAny_holding (wE h5 fun r s6 h6 => wpAny_bind (wpAny_standAt (wpAny_holding (wE h6 fun _ s7 h7 => wpAny_pure ⟨rfl, h7⟩)))))))
theorem startIn {itv : Value} {D : Addr} {ce : Env} {R : Result → Shared → Prop} {s : Shared} (h0 : codeAny (model X.prog X.w) X.A (.compLoop (.DictComp kx vx [⟨tg, iter, ifs, 0⟩, ⟨tg1, iter1, ifs1, 0⟩] scope pos) 1 itv (.ref D) ce) R s)
    (h : wpAny (model X.prog X.w) X.A (pyIter itv) (fun it' s' => codeAny (model X.prog X.w) X.A (.compLoop (.DictComp kx vx [⟨tg, iter, ifs, 0⟩, ⟨tg1, iter1, ifs1, 0⟩] scope pos) 1 it' (.ref D) ce) R s') (notedBy (model X.prog X.w) X.A ce fun x s' => R (.error x) s') s) :
    codeAny (model X.prog X.w) X.A (.compStart (.DictComp kx vx [⟨tg, iter, ifs, 0⟩, ⟨tg1, iter1, ifs1, 0⟩] scope pos) 1 itv (.ref D) ce) R s := by
  refine codeAny_of_tree ?_
  show wpAny _ _ ((compStart (.DictComp kx vx [⟨tg, iter, ifs, 0⟩, ⟨tg1, iter1, ifs1, 0⟩] scope pos) 1 itv (.ref D) ce).onRaise (fun x => do noteFrame x ce; standAt theWindowsPlace)) _ _ s
  refine wpAny_notedAt ?_
  unfold compStart
  show wpAny _ _ (ask >>= _) _ _ s
  refine wpAny_bind (wpAny_askSetting (wpAny_ite ?_))
  split
  · first
      | exact wpAny_bind (wpAny_pure (wpAny_pure (And.intro rfl h0)))
      | exact wpAny_pure (And.intro rfl h0)
  · refine wpAny_bind (wpAny_rule ?_)
    first
      | exact wpAny_bind (wpAny_standAt (wpAny_bind (wpAny_mono h (fun it' s' h' => wpAny_pure (And.intro rfl h')) fun _ _ x => x)))
      | (show wpAny _ _ (standAt iter1.pos >>= _) _ _ s; exact wpAny_bind (wpAny_standAt (wpAny_bind (wpAny_mono h (fun it' s' h' => wpAny_pure (And.intro rfl h')) fun _ _ x => x))))
/-- the second clause: its source, its own turns, till Nx is reached -/
def tb2 (P : Program) (w : World) (K : PySem.W.Frag) (wi1 : TI) (g1 : TG) (tt1 : TT) (tk tv : TE) (vs1 : List Nat) : TBody := fun σ H D Nx => wi1 σ H fun J1 H4 => ∃ W1 : Nat → Nat → Hp → Prop, (∃ m, W1 0 m H4) ∧ ∀ j k H, W1 j k H →
  (J1.stop j H ∧ Nx H) ∨ (J1.go j H ∧ ∃ Nx1 : Hp → Prop, (∀ H', Nx1 H' → ∃ k', k' < k ∧ W1 (j + 1) k' H') ∧ ∀ x H', J1.yld j H x H' → g1 x (wipe σ vs1) H' fun σ3 H5 => wipe σ3 vs1 = wipe σ vs1 ∧ tt1 σ3 H5 fun b H6 =>
    if b = true then tb1 P w K tk tv σ3 H6 D Nx1 else Nx1 H6)
theorem body2 {wi1 : TI} {g1 : TG} {tt1 : TT} {tk tv : TE} {vs vs1 : List Nat} (calm : X.calm = true) (hu : X.A.units + 9 < cLine) (hv : ∀ i ∈ vs1, i ∈ vs) (hi1 : InB X scope fun Y => PI Y tg1 iter1 wi1) (hg1 : InB X scope fun Y => PG Y tg1 g1) (ht1 : InB X scope fun Y => PTs Y ifs1 tt1)
    (hk : InB X scope fun Y => PE Y kx tk) (he : InB X scope fun Y => PE Y vx tv) :
    BodyBy X scope vs (Bw2 X (.DictComp kx vx [⟨tg, iter, ifs, 0⟩, ⟨tg1, iter1, ifs1, 0⟩] scope pos) iter1) (tb2 X.prog X.w X.K wi1 g1 tt1 tk tv vs1) := fun s0 H0 C cl fp pins s σ H D Nx P I h k => by
  refine wE ((hi1 s0 H0 C cl fp).run pins s σ H _ I h) fun xv sa qa => wE qa fun itv sb qb => ?_
  obtain ⟨it, f1, tn, J, Hb, rfl, Ib, T, stb, fpb, W, ⟨m0, w0⟩, turn⟩ := qb
  have stat : ∀ {H' : Hp}, (∀ b ∈ f1, H' b = none) → ∀ b ∈ f1, FpOk (X.blk s0 H0 scope (compEnvC scope cl C X.env) fp) pins H' b := fun hn b hb => ⟨hn b hb, (fpb b hb).2⟩
  have loop : codeAny (model X.prog X.w) X.A (.compLoop (.DictComp kx vx [⟨tg, iter, ifs, 0⟩, ⟨tg1, iter1, ifs1, 0⟩] scope pos) 1 (.ref it) (.ref D) (compEnvC scope cl C X.env)) (fun r s' => match r with
      | .ok _ => P s'
      | .error _ => False) sb := by
    refine loopIn (fun n s' => ∃ j H', Inv (X.blk s0 H0 scope (compEnvC scope cl C X.env) fp) pins (wipe σ vs1) H' s' ∧ tn j s'.heap ∧ (∀ b ∈ f1, H' b = none) ∧ W j n H') _ _ _ _ _ m0 ?_ ⟨0, Hb, Ib.weak (wipe_length _ _) (fun j v e => (wipe_some e).1), stb, fun b hb => (fpb b hb).1, w0⟩
    rintro n sc ⟨j, Hc, Ic, stc, nc, wc⟩
    rcases turn j n Hc wc with ⟨stop, nx⟩ | ⟨go, Nx1, hNx, step⟩
    · refine wE (T.done (X.blk s0 H0 scope (compEnvC scope cl C X.env) fp) rfl rfl rfl calm j _ sc (wipe σ vs1) Hc noE Ic (stat nc) stc stop) fun r sd ⟨hr, Id⟩ => ?_
      subst hr
      exact k _ Hc sd Id (wipe_length σ vs1) (fun i v hi e => wipe_in (fun z => hi (hv i z)) e) nx
    · refine wE (T.item (X.blk s0 H0 scope (compEnvC scope cl C X.env) fp) rfl rfl rfl calm j _ sc (wipe σ vs1) Hc noE Ic (stat nc) stc go) fun r sd ⟨u, hr, hd⟩ => ?_
      subst hr
      refine wE hd fun _ se ⟨x, He, Ie, re, ye, ste, ne⟩ => ?_
      have Ie' := Ie.pinned (stat ne) (T.obj _ _ ste)
      refine wE ((hg1 s0 H0 C cl fp).run _ se (wipe σ vs1) He x u _ Ie' re (step x He ye)) fun _ sf ⟨σf, Hf, If, hwf, qf⟩ => ?_
      refine wE ((ht1 s0 H0 C cl fp).run _ sf σf Hf _ If qf) fun b sg ⟨Hg, Ig, qg⟩ => ?_
      have ends : ∀ {s' : Shared} {H' : Hp}, Inv (X.blk s0 H0 scope (compEnvC scope cl C X.env) fp) (pins ++ pinsAt f1 se.heap) σf H' s' → Nx1 H' → ∃ m, m < n ∧ ∃ j H', Inv (X.blk s0 H0 scope (compEnvC scope cl C X.env) fp) pins (wipe σ vs1) H' s' ∧ tn j s'.heap ∧ (∀ b ∈ f1, H' b = none) ∧ W j m H' := fun {s' H'} I' nx => by
        obtain ⟨m', hm, w'⟩ := hNx H' nx
        have kept : ∀ b ∈ f1, ∀ o, se.heap.get? b = some o → s'.heap.get? b = some o ∧ H' b = none := fun b hb o e =>
          let z := I'.pin (b, o) (List.mem_append_right _ (List.mem_append_right _ (mem_pinsAt hb e)))
          ⟨z.1, z.2.1⟩
        exact ⟨m', hm, j + 1, H', I'.unpinned.weak (by rw [← hwf, wipe_length]) (fun i v e => by rw [← hwf] at e; exact (wipe_some e).1), T.keep _ _ _ ste fun b hb o e => (kept b hb o e).1, fun b hb => let ⟨o, e, _⟩ := T.obj _ _ ste b hb; (kept b hb o e).2, w'⟩
      cases b with
      | false =>
        simp only [Bool.false_eq_true, if_false] at qg ⊢
        exact ends Ig qg
      | true =>
        simp only [if_true] at qg ⊢
        exact body1 (vs := []) hu hk he s0 H0 C cl fp _ sg σf Hg D Nx1 _ Ig qg fun σ' H' s' I' hl hk' nx => by
          refine ends (I'.weak hl.symm fun i v e => ?_) nx
          exact hk' i v (fun z => nomatch z) e
  exact startIn loop (T.self X.A 0 _ _ _ stb loop)
end
end Rf
set_option maxHeartbeats 4000000
namespace Rf
open PySem PySem.Spec PyProof.Rows L2 RfE
abbrev W0 : WX := fun _ _ _ _ => False
theorem R.all_calm {α : Type} {P : α → Prop} {E E' : XP} : ∀ {r : R α}, r.calm.all P E → r.all P E'
  | .ok _, h => h
  | .exc _ _ _ _, h => h.elim
  | .draw _ q, h => fun r hr => R.all_calm (r := q r) (h r hr)
  | .fail, h => h
theorem Sat.calm {g : Gs} {W W' : WX} {m : List Addr} {H : Hp} {α : Type} {r : R (α × List Ob)} {P : α → List Ob → List Addr → Hp → Prop} (x : Sat g W m H r.calm P) : Sat g W' m H r P := R.all_calm x
theorem wipe_wipe (σ : L2.St) (vs : List Nat) : wipe (wipe σ vs) vs = wipe σ vs := by
  apply List.ext_getElem?
  intro j
  rw [wipe_get, wipe_get]
  by_cases hj : j ∈ vs
  · rw [if_pos hj, if_pos hj]
    cases σ[j]? <;> rfl
  · rw [if_neg hj, if_neg hj]
theorem At.wipe {g : Gs} {q : Iv g} {m : List Addr} {s : Env'} {h : List Ob} {z : L2.St} {H : Hp} {vs : List Nat} (A : At g q m s h z H) (hp : ∀ p ∈ q.pin, p.1 ∉ vs) : At g q m (wipeE s vs) h (L2.wipe z vs) H :=
  ⟨A.sr.wipe vs, A.hr, fun p hpp => by rw [wipe_get, if_neg (hp p hpp)]; exact A.cu.1 p hpp, A.cu.2⟩
section
variable (X : Cx) (g : Gs) (W : WX) (q : Iv g) (c : Cf) (hb : Hbt)
def NTs (es : List Expr) (is : List IE) : Prop := ∀ n, PTs X es (TTv g W q ((evN c hb n).Ts is))
end
section
variable {X : Cx} {g : Gs} {W : WX} {q : Iv g} {c : Cf} {hb : Hbt} {a b d e : Expr} {i j k : IE} {pos : Pos}
theorem ts_nil : NTs X g W q c hb [] []
  | 0 => ⟨fun pins s σ H Q I ⟨_, _, _, _, S⟩ => S.no.elim⟩
  | n + 1 => ⟨fun pins s σ H Q I ⟨m, z, h, A, S⟩ => pts_nil.run pins s σ H Q I (S.ok0 A.hr)⟩
theorem ts_one (h : NT X g W q c hb a i) : NTs X g W q c hb [a] [i]
  | 0 => ⟨fun pins s σ H Q I ⟨_, _, _, _, S⟩ => S.no.elim⟩
  | n + 1 => ⟨fun pins s σ H Q I ⟨m, z, k, A, S⟩ => (pts_one (h n)).run pins s σ H Q I ⟨m, z, k, A, S⟩⟩
theorem some_pts {X : Cx} {es : List Expr} {t : Nat → TT} (h : ∀ n, PTs X es (t n)) : PTs X es (fun σ H Q => ∃ n, t n σ H Q) := ⟨fun pins s σ H Q I ⟨n, q⟩ => (h n).run pins s σ H Q I q⟩
/-- the reading of a list comprehension by the evaluator -/
theorem lc_read {t : IT} {it : II} {ifs : List IE} {vs : List Nat} {n : Nat} {σ : L2.St} {H : Hp} {Q : VK} (hp : ∀ p ∈ q.pin, p.1 ∉ vs) (x : TEv g W q (stepE c (evN c hb n) (.lc k t it ifs vs)) σ H Q) :
    tLc (TIv g W q ((evN c hb n).I it)) (setR g q vs fun u s => setT 10 t u s) (fun σ H Q => ∃ n, TTv g W0 q ((evN c hb n).Ts ifs) σ H Q) (fun σ H Q => ∃ n, TEv g W0 q ((evN c hb n).E k) σ H Q) vs σ H Q := by
  obtain ⟨m, s, h, A, S⟩ := x
  refine ⟨m, s, h, A, (Sat.bind S).imp fun rn h1 m1 H1 l1 hr1 S1 J hJ D hD => ?_⟩
  have L := Le.alloc (o := .lst []) hr1 hD
  have hr2 := hr1.alloc hD (u := .lst []) (o := .lst []) ⟨[], rfl, rfl⟩
  have A2 := ((A.to l1 hr1).to L hr2).wipe (vs := vs) hp
  have hd : (m1 ++ [D])[h1.length]? = some D := by rw [hr1.len, List.getElem?_append_right (Nat.le_refl _), Nat.sub_self] <;> rfl
  refine ⟨fun i k' H => ∃ m h, At g q m (wipeE s vs) h (L2.wipe σ vs) H ∧ RnR g m H rn J ∧ m[h1.length]? = some D ∧ Sat g W0 m H ((evN c hb k').L k t ifs rn h1.length i (wipeE s vs) h) (fun _ h' m' H' => Sat g W m' H' (.ok (.obj h1.length, h')) (VPost g Q)),
    ⟨n, _, _, A2, hJ.mono L, hd, (Sat.calm (Sat.bind S1)).mono L⟩, ?_⟩
  rintro i k' H ⟨m, h, A, hJ, hd, S⟩
  cases k' with
  | zero => exact S.no.elim
  | succ k' =>
    have S : Sat g W0 m H (stepL (evN c hb k') k t ifs rn h1.length i (wipeE s vs) h) _ := S
    unfold stepL at S
    split at S
    · exact S.no.elim
    · rename_i e
      exact .inl ⟨at_stop hJ A.hr e, (S.ok0 A.hr).ok0 A.hr _ ⟨D, rfl, hd⟩⟩
    · rename_i u e
      obtain ⟨g1, g2⟩ := at_go hJ A.hr e
      refine .inr ⟨g1, fun H' => ∃ m h, At g q m (wipeE s vs) h (L2.wipe σ vs) H' ∧ RnR g m H' rn J ∧ m[h1.length]? = some D ∧ Sat g W0 m H' ((evN c hb k').L k t ifs rn h1.length (i + 1) (wipeE s vs) h) (fun _ h' m' H' => Sat g W m' H' (.ok (.obj h1.length, h')) (VPost g Q)),
        fun H' w => ⟨k', Nat.lt_succ_self k', w⟩, fun x H' y => ?_⟩
      obtain ⟨m', l', hr', rv⟩ := g2 x H' y
      split at S
      · exact S.no.elim
      · rename_i s' e'
        refine ⟨m', wipeE s vs, h, u, s', A.to l' hr', rv, e', fun σ2 A2 ho => ⟨(ho vs fun _ z => z).trans (wipe_wipe σ vs), k', m', s', h, A2, ((Sat.bind S).mono l').imp fun b h3 m3 H3 l3 hr3 S3 => ?_⟩⟩
        have A3 := (A.to l' hr').to l3 hr3
        have J3 := (hJ.mono l').mono l3
        have d3 := pre_get l3.pre (pre_get l'.pre hd)
        cases b with
        | false => exact ⟨m3, h3, A3, J3, d3, S3⟩
        | true =>
          refine ⟨k', m3, s', h3, A2.to l3 hr3, (Sat.bind S3).imp fun u4 h4 m4 H4 l4 hr4 S4 v4 rv4 => ?_⟩
          have A4 := A3.to l4 hr4
          have d4 := pre_get l4.pre d3
          split at S4
          · rename_i acc e4
            obtain ⟨ys, k1, hx⟩ := hr4.lstAt d4 e4
            obtain ⟨ct, S4⟩ := ite_sat S4
            have hset : VRs g m4 H4 (acc ++ [u4]) (ys ++ [v4]) := hx.append (.cons rv4 .nil)
            have L5 := Le.set (o := .lst (ys ++ [v4])) hr4 d4 e4
            have hr5 := hr4.set d4 e4 (u' := .lst (acc ++ [u4])) (o := .lst (ys ++ [v4])) ⟨_, rfl, hset⟩
            exact ⟨ys, k1, by rw [← hx.length]; exact lim_lt ct, m4, _, A4.to L5 hr5, (J3.mono l4).mono L5, d4, S4.mono L5⟩
          · exact S4.no.elim
theorem n_lc {tg iter : Expr} {es : List Expr} {scope : Scope} {own : List (Str × Nat)} {t : IT} {it : II} {ifs : List IE} {vs : List Nat} (hc : X.calm = true) (hN : X.N.Nodup) (ok : BlkOk X.N X.env.scope scope own) (hv : vs = own.map (·.2)) (hp : ∀ p ∈ q.pin, p.1 ∉ vs) (hs : noSet iter = true)
    (hi : NI X g W q c hb tg iter it) (hg : InB X scope fun Y => NG Y g q vs tg t) (ht : InB X scope fun Y => NTs Y g W0 q c hb es ifs) (he : InB X scope fun Y => NE Y g W0 q c hb a k) :
    NE X g W q c hb (.ListComp a [⟨tg, iter, es, 0⟩] scope pos) (.lc k t it ifs vs) :=
  .mk fun n => by
    subst hv
    exact (pe_lc hc hN (hi n) ok (fun s H C cl fp => hg s H C cl fp 10) (fun s H C cl fp => some_pts (ht s H C cl fp)) (fun s H C cl fp => some_pe (he s H C cl fp)) (by intro x; cases iter <;> first | rfl | cases hs)).of fun σ H Q x => lc_read hp x
/-- name = [..] where the comprehension's frame is used -/
theorem s_setLc {ix : Nat} {x : Str} {px : Pos} {tg iter : Expr} {es : List Expr} {scope : Scope} {own : List (Str × Nat)} {t : IT} {it : II} {ifs : List IE} {vs : List Nat} {p2 : Pos} (hc : X.calm = true) (hN : X.N.Nodup) (hx : X.N[ix]? = some x) (hl : X.env.scope.names.lookup x = some .local)
    (hsw : swapsWith (.ListComp a [⟨tg, iter, es, 0⟩] scope p2) (some (.Name x px)) pos.line X.env = pure true) (hpx : ∀ p ∈ q.pin, p.1 ≠ ix)
    (ok : BlkOk X.N X.env.scope scope own) (hv : vs = own.map (·.2)) (hp : ∀ p ∈ q.pin, p.1 ∉ vs) (hs : noSet iter = true)
    (hi : NI X g W q c hb tg iter it) (hg : InB X scope fun Y => NG Y g q vs tg t) (ht : InB X scope fun Y => NTs Y g W0 q c hb es ifs) (he : InB X scope fun Y => NE Y g W0 q c hb a k) :
    NS X g W q c hb (.Assign [.Name x px] (.ListComp a [⟨tg, iter, es, 0⟩] scope p2) pos) (.asg (.nm ix) (.lc k t it ifs vs)) :=
  .mk fun n => by
    subst hv
    cases n with
    | zero => exact ⟨fun _ _ _ _ _ _ ⟨_, _, _, _, S⟩ => (Sat.bind S).no.elim⟩
    | succ n =>
      refine (ps_setLc hc hN hx hl hsw (hi n) ok (fun s H C cl fp => hg s H C cl fp 10) (fun s H C cl fp => some_pts (ht s H C cl fp)) (fun s H C cl fp => some_pe (he s H C cl fp)) (by intro x; cases iter <;> first | rfl | cases hs)).of fun D σ H ⟨m, s, h, A, S⟩ => ?_
      refine lc_read (Q := fun x H1 => gName ix x σ H1 D.nx) hp ⟨m, s, h, A, (Sat.bind S).imp fun u h1 m1 H1 l1 hr1 S1 v rv => S1.ok0 hr1 _ ((A.to l1 hr1).put rv hpx)⟩
/-- what a dict's loop keeps -/
def DcW (X : Cx) (g : Gs) (q : Iv g) (c : Cf) (hb : Hbt) (kk k : IE) (t : IT) (ifs : List IE) (rn : Rn) (J : It) (n0 : Nat) (D : Addr) (s : Env') (σ : L2.St) (P : Unit → List Ob → List Addr → Hp → Prop) : Nat → Nat → Hp → Prop := fun i k' H =>
  ∃ m h, At g q m s h σ H ∧ RnR g m H rn J ∧ m[n0]? = some D ∧ Sat g W0 m H ((evN c hb k').Dc kk k t ifs rn n0 i s h) P
/-- one clause's turns, over a dict at D -/
theorem dc_turn {kk : IE} {t : IT} {ifs : List IE} {vs : List Nat} {σ : L2.St} {s : Env'} {rn : Rn} {J : It} {n0 : Nat} {D : Addr} {P : Unit → List Ob → List Addr → Hp → Prop} (hK : X.K = g.K) (hP : X.prog = g.P) (hw : X.w = g.w) (hpv : wipeE s vs = s) {i k' : Nat} {H : Hp} (w : DcW X g q c hb kk k t ifs rn J n0 D s (L2.wipe σ vs) P i k' H) :
    (J.stop i H ∧ ∃ m h, At g q m s h (L2.wipe σ vs) H ∧ m[n0]? = some D ∧ P () h m H) ∨ (J.go i H ∧ ∃ Nx : Hp → Prop, (∀ H', Nx H' → ∃ k2, k2 < k' ∧ DcW X g q c hb kk k t ifs rn J n0 D s (L2.wipe σ vs) P (i + 1) k2 H') ∧ ∀ x H', J.yld i H x H' → setR g q vs (fun u s => setT 10 t u s) x (L2.wipe σ vs) H' fun σ2 H2 => L2.wipe σ2 vs = L2.wipe σ vs ∧ (∃ n, TTv g W0 q ((evN c hb n).Ts ifs) σ2 H2 fun b H3 =>
      if b = true then tb1 X.prog X.w X.K (fun σ H Q => ∃ n, TEv g W0 q ((evN c hb n).E kk) σ H Q) (fun σ H Q => ∃ n, TEv g W0 q ((evN c hb n).E k) σ H Q) σ2 H3 D Nx else Nx H3)) := by
  obtain ⟨m, h, A, hJ, hd, S⟩ := w
  cases k' with
  | zero => exact S.no.elim
  | succ k' =>
    have S : Sat g W0 m H (stepDc (evN c hb k') kk k t ifs rn n0 i s h) P := S
    unfold stepDc at S
    split at S
    · exact S.no.elim
    · rename_i e
      exact .inl ⟨at_stop hJ A.hr e, m, h, A, hd, S.ok0 A.hr⟩
    · rename_i u e
      obtain ⟨g1, g2⟩ := at_go hJ A.hr e
      refine .inr ⟨g1, fun H' => DcW X g q c hb kk k t ifs rn J n0 D s (L2.wipe σ vs) P (i + 1) k' H', fun H' w => ⟨k', Nat.lt_succ_self k', w⟩, fun x H' y => ?_⟩
      obtain ⟨m', l', hr', rv⟩ := g2 x H' y
      split at S
      · exact S.no.elim
      · rename_i s' e'
        refine ⟨m', s, h, u, s', A.to l' hr', rv, e', fun σ2 A2 ho => ⟨(ho vs fun _ z => z).trans (wipe_wipe σ vs), k', m', s', h, A2, ((Sat.bind S).mono l').imp fun b h3 m3 H3 l3 hr3 S3 => ?_⟩⟩
        have A3 := (A.to l' hr').to l3 hr3
        have J3 := (hJ.mono l').mono l3
        have d3 := pre_get l3.pre (pre_get l'.pre hd)
        cases b with
        | false => exact ⟨m3, h3, A3, J3, d3, S3⟩
        | true =>
          refine ⟨k', m3, s', h3, A2.to l3 hr3, (Sat.bind S3).imp fun u4 h4 m4 H4 l4 hr4 S4 v4 rv4 => ⟨k', m4, s', h4, (A2.to l3 hr3).to l4 hr4, (Sat.bind S4).imp fun u5 h5 m5 H5 l5 hr5 S5 v5 rv5 => ?_⟩⟩
          have A5 := (A3.to l4 hr4).to l5 hr5
          have d5 := pre_get l5.pre (pre_get l4.pre d3)
          split at S5
          · rename_i h6 e6
            obtain ⟨p, H6, ep, hn, L, hr6, q6⟩ := putD_ok hr5 e6 (a := V.ref D) ⟨D, rfl, d5⟩ (VR.mono l5 _ _ rv4) rv5
            cases ep
            refine ⟨H6, by rw [hK, hP, hw]; exact q6, m5, h6, A5.to L hr6, ((J3.mono l4).mono l5).mono L, d5, S5.mono L⟩
          · exact S5.no.elim
theorem wipeE_twice (s : Env') (vs : List Nat) : wipeE (wipeE s vs) vs = wipeE s vs := by
  have get : ∀ (vs : List Nat) (s : Env') (j : Nat), (wipeE s vs)[j]? = if j ∈ vs then s[j]?.map fun _ => none else s[j]? := by
    intro vs
    induction vs with
    | nil => intro s j; simp [wipeE]
    | cons v vs ih =>
      intro s j
      unfold wipeE
      have len : ∀ (vs : List Nat) (s : Env'), (wipeE s vs).length = s.length := by
        intro vs
        induction vs with
        | nil => intro s; rfl
        | cons v vs ih => intro s; unfold wipeE; rw [List.length_set, ih]
      by_cases e : v = j
      · subst e
        rw [if_pos List.mem_cons_self, List.getElem?_set]
        simp only [if_true]
        rw [len]
        by_cases h : v < s.length
        · rw [if_pos h, List.getElem?_eq_getElem h] <;> rfl
        · rw [if_neg h, List.getElem?_eq_none (Nat.le_of_not_lt h)] <;> rfl
      · rw [List.getElem?_set_ne e, ih]
        by_cases h : j ∈ vs
        · rw [if_pos h, if_pos (List.mem_cons_of_mem _ h)]
        · rw [if_neg h, if_neg (fun z => (List.mem_cons.mp z).elim (fun z => e z.symm) h)]
  apply List.ext_getElem?
  intro j
  rw [get, get]
  by_cases h : j ∈ vs
  · rw [if_pos h, if_pos h]
    cases s[j]? <;> rfl
  · rw [if_neg h, if_neg h]
theorem dc_read {kk : IE} {t : IT} {it : II} {ifs : List IE} {vs : List Nat} {n : Nat} {σ : L2.St} {H : Hp} {Q : VK} (hK : X.K = g.K) (hP : X.prog = g.P) (hw : X.w = g.w) (hp : ∀ p ∈ q.pin, p.1 ∉ vs) (x : TEv g W q (stepE c (evN c hb n) (.dc kk k t it ifs vs)) σ H Q) :
    tDG (TIv g W q ((evN c hb n).I it)) (setR g q vs fun u s => setT 10 t u s) (fun σ H Q => ∃ n, TTv g W0 q ((evN c hb n).Ts ifs) σ H Q) (tb1 X.prog X.w X.K (fun σ H Q => ∃ n, TEv g W0 q ((evN c hb n).E kk) σ H Q) (fun σ H Q => ∃ n, TEv g W0 q ((evN c hb n).E k) σ H Q)) vs σ H Q := by
  obtain ⟨m, s, h, A, S⟩ := x
  refine ⟨m, s, h, A, (Sat.bind S).imp fun rn h1 m1 H1 l1 hr1 S1 J hJ D hD => ?_⟩
  have L := Le.alloc (o := .dK []) hr1 hD
  have hr2 := hr1.alloc hD (u := .dic []) (o := .dK []) ⟨[], rfl, rfl⟩
  have A2 := ((A.to l1 hr1).to L hr2).wipe (vs := vs) hp
  have hd : (m1 ++ [D])[h1.length]? = some D := by rw [hr1.len, List.getElem?_append_right (Nat.le_refl _), Nat.sub_self] <;> rfl
  refine ⟨DcW X g q c hb kk k t ifs rn J h1.length D (wipeE s vs) (L2.wipe σ vs) (fun _ h' m' H' => Sat g W m' H' (.ok (.obj h1.length, h')) (VPost g Q)),
    ⟨n, _, _, A2, hJ.mono L, hd, (Sat.calm (Sat.bind S1)).mono L⟩, fun i k' H w => ?_⟩
  rcases dc_turn hK hP hw (wipeE_twice s vs) w with ⟨st, m', h', A', d', S'⟩ | z
  · exact .inl ⟨st, S'.ok0 A'.hr _ ⟨D, rfl, d'⟩⟩
  · exact .inr z
theorem pe_dG {kx vx tg iter : Expr} {ifs : List Expr} {more : List Comprehension} {scope : Scope} {own : List (Str × Nat)} {wi : TI} {g : TG} {tt : TT} {tb : TBody} {Bw : BodyW} (calm : X.calm = true) (nd : X.N.Nodup) (hi : PI X tg iter wi) (ok : BlkOk X.N X.env.scope scope own)
    (hg : InB X scope fun Y => PG Y tg g) (ht : InB X scope fun Y => PTs Y ifs tt) (hL : LoopBy X (.DictComp kx vx (⟨tg, iter, ifs, 0⟩ :: more) scope pos) tg ifs Bw) (hB : BodyBy X scope (own.map (·.2)) Bw tb) (plain : ∀ x, foldedSetIterable iter X.env x = pure x) :
    PE X (.DictComp kx vx (⟨tg, iter, ifs, 0⟩ :: more) scope pos) (tDG wi g tt tb (own.map (·.2))) := by
  refine ⟨fun pins s σ H Q I h => ?_⟩
  rw [arm_eval_DictComp]
  refine dG_core calm nd I hi ok hg ht hL hB plain h fun D C s' m H' I' q hn f => ⟨m, hn, fun h2 sb => ?_⟩
  obtain ⟨f0, f1, f2, f3, f4, f5⟩ := f
  exact ⟨.ref D, H', I'.turned (t' := s'.toks) (fun b o hb e => (sb.2 b hb).trans e) f0 f1 f3 f4 f5, rfl, q⟩
theorem plain_of {iter : Expr} (hs : noSet iter = true) (env : Env) (x : Value) : foldedSetIterable iter env x = pure x := by
  cases iter <;> first | rfl | cases hs
theorem n_dc {kx tg iter : Expr} {kk : IE} {es : List Expr} {scope : Scope} {own : List (Str × Nat)} {t : IT} {it : II} {ifs : List IE} {vs : List Nat} (hK : X.K = g.K) (hP : X.prog = g.P) (hw : X.w = g.w) (hu : X.A.units + 9 < cLine) (hc : X.calm = true) (hN : X.N.Nodup) (ok : BlkOk X.N X.env.scope scope own) (hv : vs = own.map (·.2)) (hp : ∀ p ∈ q.pin, p.1 ∉ vs) (hs : noSet iter = true)
    (hi : NI X g W q c hb tg iter it) (hg : InB X scope fun Y => NG Y g q vs tg t) (ht : InB X scope fun Y => NTs Y g W0 q c hb es ifs) (hk : InB X scope fun Y => NE Y g W0 q c hb kx kk) (he : InB X scope fun Y => NE Y g W0 q c hb a k) :
    NE X g W q c hb (.DictComp kx a [⟨tg, iter, es, 0⟩] scope pos) (.dc kk k t it ifs vs) :=
  .mk fun n => by
    subst hv
    exact (pe_dG hc hN (hi n) ok (fun s H C cl fp => hg s H C cl fp 10) (fun s H C cl fp => some_pts (ht s H C cl fp)) loop1 (body1 hu (fun s H C cl fp => some_pe (hk s H C cl fp)) (fun s H C cl fp => some_pe (he s H C cl fp))) (plain_of hs X.env)).of fun σ H Q x => dc_read hK hP hw hp x
/-! ### two clauses -/
theorem dc2_read {kk : IE} {t t2 : IT} {it it2 : II} {ifs ifs2 : List IE} {vs vs2 : List Nat} {n : Nat} {σ : L2.St} {H : Hp} {Q : VK} (hK : X.K = g.K) (hP : X.prog = g.P) (hw : X.w = g.w) (hp : ∀ p ∈ q.pin, p.1 ∉ vs) (hp2 : ∀ p ∈ q.pin, p.1 ∉ vs2) (x : TEv g W q (stepE c (evN c hb n) (.dc2 kk k t it ifs t2 it2 ifs2 vs vs2)) σ H Q) :
    tDG (TIv g W q ((evN c hb n).I it)) (setR g q vs fun u s => setT 10 t u s) (fun σ H Q => ∃ n, TTv g W0 q ((evN c hb n).Ts ifs) σ H Q) (tb2 X.prog X.w X.K (fun σ H K => ∃ n, TIv g W0 q ((evN c hb n).I it2) σ H K) (setR g q vs2 fun u s => setT 10 t2 u s) (fun σ H Q => ∃ n, TTv g W0 q ((evN c hb n).Ts ifs2) σ H Q) (fun σ H Q => ∃ n, TEv g W0 q ((evN c hb n).E kk) σ H Q) (fun σ H Q => ∃ n, TEv g W0 q ((evN c hb n).E k) σ H Q) vs2) vs σ H Q := by
  obtain ⟨m, s, h, A, S⟩ := x
  refine ⟨m, s, h, A, (Sat.bind S).imp fun rn h1 m1 H1 l1 hr1 S1 J hJ D hD => ?_⟩
  have L := Le.alloc (o := .dK []) hr1 hD
  have hr2 := hr1.alloc hD (u := .dic []) (o := .dK []) ⟨[], rfl, rfl⟩
  have A2 := ((A.to l1 hr1).to L hr2).wipe (vs := vs) hp
  have hd : (m1 ++ [D])[h1.length]? = some D := by rw [hr1.len, List.getElem?_append_right (Nat.le_refl _), Nat.sub_self] <;> rfl
  refine ⟨fun i k' H => ∃ m h, At g q m (wipeE s vs) h (L2.wipe σ vs) H ∧ RnR g m H rn J ∧ m[h1.length]? = some D ∧ Sat g W0 m H ((evN c hb k').D2 kk k t ifs t2 it2 ifs2 vs2 rn h1.length i (wipeE s vs) h) (fun _ h' m' H' => Sat g W m' H' (.ok (.obj h1.length, h')) (VPost g Q)),
    ⟨n, _, _, A2, hJ.mono L, hd, (Sat.calm (Sat.bind S1)).mono L⟩, ?_⟩
  rintro i k' H ⟨m, h, A, hJ, hd, S⟩
  cases k' with
  | zero => exact S.no.elim
  | succ k' =>
    have S : Sat g W0 m H (stepD2 (evN c hb k') kk k t ifs t2 it2 ifs2 vs2 rn h1.length i (wipeE s vs) h) _ := S
    unfold stepD2 at S
    split at S
    · exact S.no.elim
    · rename_i e
      exact .inl ⟨at_stop hJ A.hr e, (S.ok0 A.hr).ok0 A.hr _ ⟨D, rfl, hd⟩⟩
    · rename_i u e
      obtain ⟨g1, g2⟩ := at_go hJ A.hr e
      refine .inr ⟨g1, fun H' => ∃ m h, At g q m (wipeE s vs) h (L2.wipe σ vs) H' ∧ RnR g m H' rn J ∧ m[h1.length]? = some D ∧ Sat g W0 m H' ((evN c hb k').D2 kk k t ifs t2 it2 ifs2 vs2 rn h1.length (i + 1) (wipeE s vs) h) (fun _ h' m' H' => Sat g W m' H' (.ok (.obj h1.length, h')) (VPost g Q)),
        fun H' w => ⟨k', Nat.lt_succ_self k', w⟩, fun x H' y => ?_⟩
      obtain ⟨m', l', hr', rv⟩ := g2 x H' y
      split at S
      · exact S.no.elim
      · rename_i s' e'
        refine ⟨m', wipeE s vs, h, u, s', A.to l' hr', rv, e', fun σ2 A2 ho => ⟨(ho vs fun _ z => z).trans (wipe_wipe σ vs), k', m', s', h, A2, ((Sat.bind S).mono l').imp fun b h3 m3 H3 l3 hr3 S3 => ?_⟩⟩
        have A3 := (A.to l' hr').to l3 hr3
        have J3 := (hJ.mono l').mono l3
        have d3 := pre_get l3.pre (pre_get l'.pre hd)
        cases b with
        | false => exact ⟨m3, h3, A3, J3, d3, S3⟩
        | true =>
          refine ⟨k', m3, s', h3, A2.to l3 hr3, (Sat.bind S3).imp fun rn2 h4 m4 H4 l4 hr4 S4 J2 hJ2 => ?_⟩
          have A4 := (A2.to l3 hr3).to l4 hr4
          have A4w := A4.wipe (vs := vs2) hp2
          have d4 := pre_get l4.pre d3
          refine ⟨DcW X g q c hb kk k t2 ifs2 rn2 J2 h1.length D (wipeE s' vs2) (L2.wipe σ2 vs2) (fun _ h5 m5 H5 => Le g m4 H4 m5 H5 ∧ Sat g W0 m5 H5 ((evN c hb k').D2 kk k t ifs t2 it2 ifs2 vs2 rn h1.length (i + 1) (wipeE s vs) h5) (fun _ h' m' H' => Sat g W m' H' (.ok (.obj h1.length, h')) (VPost g Q))),
            ⟨k', m4, h4, A4w, hJ2, d4, (Sat.bind S4).imp fun _ h5 m5 H5 l5 hr5 S5 => ⟨l5, S5⟩⟩, fun j k2 H5 w => ?_⟩
          rcases dc_turn hK hP hw (wipeE_twice s' vs2) w with ⟨st, m5, h5, A5, d5, l5, S5⟩ | z
          · exact .inl ⟨st, m5, h5, (A3.to l4 hr4).to l5 A5.hr, (J3.mono l4).mono l5, d5, S5⟩
          · exact .inr z
theorem some_pi {X : Cx} {tg it : Expr} {t : Nat → TI} (h : ∀ n, PI X tg it (t n)) : PI X tg it (fun σ H K => ∃ n, t n σ H K) := ⟨fun pins s σ H R I ⟨n, q⟩ => (h n).run pins s σ H R I q⟩
theorem n_dc2 {kx tg iter tg2 iter2 : Expr} {kk : IE} {es es2 : List Expr} {scope : Scope} {own : List (Str × Nat)} {t t2 : IT} {it it2 : II} {ifs ifs2 : List IE} {vs vs2 : List Nat} (hK : X.K = g.K) (hP : X.prog = g.P) (hw : X.w = g.w) (hu : X.A.units + 9 < cLine) (hc : X.calm = true) (hN : X.N.Nodup) (ok : BlkOk X.N X.env.scope scope own) (hv : vs = own.map (·.2)) (hp : ∀ p ∈ q.pin, p.1 ∉ vs) (hv2 : ∀ i ∈ vs2, i ∈ vs) (hs : noSet iter = true) (hs2 : noSet iter2 = true)
    (hi : NI X g W q c hb tg iter it) (hg : InB X scope fun Y => NG Y g q vs tg t) (ht : InB X scope fun Y => NTs Y g W0 q c hb es ifs) (hi2 : InB X scope fun Y => NI Y g W0 q c hb tg2 iter2 it2) (hg2 : InB X scope fun Y => NG Y g q vs2 tg2 t2) (ht2 : InB X scope fun Y => NTs Y g W0 q c hb es2 ifs2) (hk : InB X scope fun Y => NE Y g W0 q c hb kx kk) (he : InB X scope fun Y => NE Y g W0 q c hb a k) :
    NE X g W q c hb (.DictComp kx a [⟨tg, iter, es, 0⟩, ⟨tg2, iter2, es2, 0⟩] scope pos) (.dc2 kk k t it ifs t2 it2 ifs2 vs vs2) :=
  .mk fun n => by
    subst hv
    exact (pe_dG hc hN (hi n) ok (fun s H C cl fp => hg s H C cl fp 10) (fun s H C cl fp => some_pts (ht s H C cl fp)) (loop2 fun env x => plain_of hs2 env x)
      (body2 hc hu hv2 (fun s H C cl fp => some_pi (hi2 s H C cl fp)) (fun s H C cl fp => hg2 s H C cl fp 10) (fun s H C cl fp => some_pts (ht2 s H C cl fp)) (fun s H C cl fp => some_pe (hk s H C cl fp)) (fun s H C cl fp => some_pe (he s H C cl fp))) (plain_of hs X.env)).of fun σ H Q x => dc2_read hK hP hw hp (fun p hpp z => hp p hpp (hv2 _ z)) x
end
end Rf
set_option maxHeartbeats 4000000
namespace Rf
open PySem PySem.Spec PyProof.Rows L2
/-! several except clauses, some with a name -/
abbrev Cl1 := Value × Option Nat × (Addr → Value → Option Addr → TS)
def asEnds (i : Nat) (D : Ends) : Ends := { nx := fun σ' H' => D.nx (σ'.set i none) H', rt := D.rt, bk := fun σ' H' => D.bk (σ'.set i none) H', ct := fun σ' H' => D.ct (σ'.set i none) H' }
def wMix (K : PySem.W.Frag) (Wout : WX) (D : Ends) : List Cl1 → WX
  | [] => Wout
  | (c, none, ts) :: r => fun cls d σ H => ∃ b, PySem.W.exmOne K cls c = some b ∧ (b = true → ∀ a, H a = none → ts a cls d D σ H) ∧ (b = false → wMix K Wout D r cls d σ H)
  | (c, some i, ts) :: r => fun cls d σ H => ∃ b, PySem.W.exmOne K cls c = some b ∧ (b = true → ∀ a, H a = none → ts a cls d (asEnds i D) (σ.set i (some (.ref a))) H) ∧ (b = false → wMix K Wout D r cls d σ H)
inductive HdsMx (X : Cx) : List ExceptHandler → List Cl1 → Prop
  | nil : HdsMx X [] []
  | cons0 {x : Str} {c : Value} {ts : Addr → Value → Option Addr → TS} {b₀ : Stmt} {suite : List Stmt} {np pos' : Pos} {hds : List ExceptHandler} {l : List Cl1} (hc : Names X x c)
      (hsu : ∀ (a : Addr) (oe : Obj) (cls : Value) (d : Option Addr) (pn : List (Addr × Obj)), Zc cls d oe → (∃ vs, oe.data = .fields vs) → PSs (X.suite a ((a, oe) :: pn)) (b₀ :: suite) (ts a cls d)) (r : HdsMx X hds l) :
      HdsMx X (.ExceptHandler (some (.Name x np)) none (b₀ :: suite) pos' :: hds) ((c, none, ts) :: l)
  | cons1 {x n : Str} {c : Value} {i : Nat} {ts : Addr → Value → Option Addr → TS} {b₀ : Stmt} {suite : List Stmt} {np pos' : Pos} {hds : List ExceptHandler} {l : List Cl1} (hN : X.N.Nodup) (hi : X.N[i]? = some n) (hln : X.env.kindOf n = some .local) (hc : Names X x c)
      (hsu : ∀ (a : Addr) (oe : Obj) (cls : Value) (d : Option Addr) (pn : List (Addr × Obj)), Zc cls d oe → (∃ vs, oe.data = .fields vs) → PSs (X.suite a ((a, oe) :: pn)) (b₀ :: suite) (ts a cls d)) (r : HdsMx X hds l) :
      HdsMx X (.ExceptHandler (some (.Name x np)) (some n) (b₀ :: suite) pos' :: hds) ((c, some i, ts) :: l)
section
variable {X : Cx} {body : List Stmt} {h₀ : ExceptHandler} {hds : List ExceptHandler} {l : List Cl1} {pos : Pos} {tb : WX → TS} {Wout : WX}
theorem ps_try_mix (hs : X.stack = X.env :: X.outer) (hf : X.env.frame = some X.env.locals) (tk : Takes X Wout)
    (hb : ∀ (W : WX) (pn : List (Addr × Obj)) (xe : Value → Shared → Prop), Takes (X.tr pn xe) W → PassesOwn (model X.prog X.w) X.A X.env xe → PSs (X.tr pn xe) body (tb W))
    (hh : HdsMx X (h₀ :: hds) l) : PS X (.Try body (h₀ :: hds) [] [] pos) (fun D σ H => tb (wMix X.K Wout D l) D σ H) := by
  refine ⟨fun pins s σ H D I h => ?_⟩
  have ok := I.ok
  have hfr : X.A.frames = some (X.env :: X.outer) := by rw [ok.frames, hs]
  refine wpAny_Try_except ?_
  refine wpAny_mono ((hb (wMix X.K Wout D l) (X.pn ++ pins) (fun e s₁ => wpAny (model X.prog X.w) X.A (noteFrame e X.env) (fun _ s₂ => wpAny (model X.prog X.w) X.A (setFlight e none) (fun _ s₃ =>
    wpAny (model X.prog X.w) X.A (handleBy e X.env (h₀ :: hds)) (SP X pins D) X.xe s₃) X.xe s₂) X.xe s₁) (fun u s' xx => ?_) PassesOwn.looking).run [] s σ H D (I.toTry _) h) (fun f s1 hsp => ?_) (fun e s1 he => he)
  · -- the catch
    obtain ⟨a, B, sI, pins', σ', H', cls, d, rfl, J', nb, up, sky, na, os, ag, w⟩ := xx
    have J : Inv X pins σ' H' sI := J'.ofTry ok
    have sky' : Sky B (X.env :: X.outer) a (Zc cls d) X.env.locals s'.heap := by rw [← hs]; exact sky
    show wpAny (model X.prog X.w) X.A (noteFrame (.ref a) X.env) _ _ _
    refine Sky.land Zc.steady hfr hf sky' fun h3 fl3 up3 => ?_
    have J3 : Inv X pins σ' H' { s' with heap := h3 } := J.landed nb fl3.1 (up.trans up3) os ag
    obtain ⟨oe3, vs3, he3, hz3, hd3⟩ := fl3.there
    have notFr : ∀ {h : Heap} {o : Obj} {vs : Array Value}, h.FunFrames B (X.env :: X.outer) → h.get? a = some o → o.data = .fields vs → a ∉ frs (X.env :: X.outer) := fun {h o vs} ff e dd hm => by
      obtain ⟨_, o', e', hnf⟩ := ff.mem hm
      rw [e] at e'; cases e'
      exact hnf _ dd
    have nfr := notFr fl3.2.2.1 he3 hd3
    have nL : a ≠ X.env.locals := fun z => nfr (List.mem_filterMap.mpr ⟨X.env, List.mem_cons_self, by rw [hf, z]⟩)
    have nF : a ∉ X.fs := fun hm => by
      obtain ⟨e, he, q⟩ := List.mem_filterMap.mp hm
      exact nfr (List.mem_filterMap.mpr ⟨e, List.mem_cons_of_mem _ he, q⟩)
    have S3 := J3.suite he3 hd3 na nL nF
    have go : ∀ {hds' : List ExceptHandler} {l' : List Cl1}, HdsMx X hds' l' → wMix X.K Wout D l' cls d σ' H' →
        wpAny (model X.prog X.w) X.A (handleBy (.ref a) X.env hds') (SP X pins D) X.xe { s' with heap := h3 } := by
      intro hds' l' hk
      induction hk with
      | nil =>
        intro w
        refine wpAny_handleBy_nil ?_
        obtain ⟨k1, k2, k3, oe, vs, T, oT, ts', he, hz, hd, h1, hr⟩ := id fl3
        unfold PySem.passOn
        refine wpAny_bind (wpAny_field he hd h1 ?_)
        rw [if_neg (show ¬ ((Value.ref T == Value.none) = true) from by simp)]
        have fin : wpAny (model X.prog X.w) X.A (setFlight (.ref a) X.env.frame) (fun _ s4 => wpAny (model X.prog X.w) X.A (throw (.ref a) : Sem Flow) (SP X pins D) X.xe s4) X.xe { s' with heap := h3 } := by
          rw [hf]
          refine HandSPX.setFlight_upZ fl3 fun h4 hh4 up4 => wpAny_throw (tk _ _ ?_)
          exact ⟨a, B, sI, pins, σ', H', cls, d, rfl, J, nb, (up.trans up3).trans up4, .inr (.inr (by rw [hs]; exact hh4)), na, os, ag, w⟩
        first
          | exact wpAny_bind (wpAny_pure (wpAny_bind fin))
          | exact wpAny_bind fin
      | @cons0 x c ts b₀ suite np pos' hds2 l2 hc hsu r ih =>
        intro w
        obtain ⟨b, hb1, hyes, hno⟩ := w
        refine wpAny_handleBy_cons (codeAny_handlers_test ?_) (by intro q; cases q)
        have LT : PySem.W.Looks (model X.prog X.w) h3 (typeOf (.ref a)) cls := fun A Q E s k q => wpAny_typeOf_ref (k _ _ he3) (by rw [hz3.1]; exact q)
        have LM := PySem.W.exm_one (M := model X.prog X.w) (J3.kIn) LT hb1
        have test : ∀ {Q : Value → Shared → Prop} {E : Value → Shared → Prop}, Q c { s' with heap := h3 } → wpAny (model X.prog X.w) (X.A.mark (some (.ref a))) (eval (.Name x np) X.env) Q E { s' with heap := h3 } := fun {Q E} q => by
          obtain ⟨hg, hdbg, hm | ⟨hm, hv, hnn⟩⟩ := hc
          · exact ld_glob (X := X.suite a ((a, oe3) :: (X.pn ++ pins))) S3 hg hm q hdbg
          · exact ld_blt (X := X.suite a ((a, oe3) :: (X.pn ++ pins))) S3 hg hm hv q hnn hdbg
        refine test (LM.here ?_)
        cases b with
        | true =>
          refine codeAny_handlers_suite ?_
          refine HandSPX.lands_againZ fl3 fun h4 fl4 up4 => ?_
          have J4 : Inv X pins σ' H' { s' with heap := h4 } := J.landed nb fl4.1 ((up.trans up3).trans up4) os ag
          obtain ⟨oe4, vs4, he4, hz4, hd4⟩ := fl4.there
          have S4 := J4.suite he4 hd4 na nL nF
          refine wpAny_mono ((hsu a oe4 cls d (X.pn ++ pins) hz4 ⟨_, hd4⟩).run [] _ _ H' _ S4 (hyes rfl a na)) (fun f s6 hsp => ?_) (fun _ _ z => False.elim z)
          cases f with
          | next =>
            obtain ⟨σ6, H6, S6, q6⟩ := hsp
            exact ⟨_, _, S6.unsuite ok, q6⟩
          | brk =>
            obtain ⟨σ6, H6, S6, q6⟩ := hsp
            exact ⟨_, _, S6.unsuite ok, q6⟩
          | cont =>
            obtain ⟨σ6, H6, S6, q6⟩ := hsp
            exact ⟨_, _, S6.unsuite ok, q6⟩
          | ret u =>
            obtain ⟨v6, σ6, H6, S6, r6, q6⟩ := hsp
            exact ⟨_, _, _, S6.unsuite ok, r6, q6⟩
        | false =>
          show wpAny _ X.A (handleBy (.ref a) X.env hds2) _ _ _
          exact ih (hno rfl)
      | @cons1 x n c i ts b₀ suite np pos' hds2 l2 hN hi hln hc hsu r ih =>
        intro w
        obtain ⟨b, hb1, hyes, hno⟩ := w
        have hloc : Loc X.env.scope n := .inl hln
        refine wpAny_handleBy_cons (codeAny_handlers_test ?_) (by intro q; cases q)
        have LT : PySem.W.Looks (model X.prog X.w) h3 (typeOf (.ref a)) cls := fun A Q E s k q => wpAny_typeOf_ref (k _ _ he3) (by rw [hz3.1]; exact q)
        have LM := PySem.W.exm_one (M := model X.prog X.w) (J3.kIn) LT hb1
        have test : ∀ {Q : Value → Shared → Prop} {E : Value → Shared → Prop}, Q c { s' with heap := h3 } → wpAny (model X.prog X.w) (X.A.mark (some (.ref a))) (eval (.Name x np) X.env) Q E { s' with heap := h3 } := fun {Q E} q => by
          obtain ⟨hg, hdbg, hm | ⟨hm, hv, hnn⟩⟩ := hc
          · exact ld_glob (X := X.suite a ((a, oe3) :: (X.pn ++ pins))) S3 hg hm q hdbg
          · exact ld_blt (X := X.suite a ((a, oe3) :: (X.pn ++ pins))) S3 hg hm hv q hnn hdbg
        refine test (LM.here ?_)
        cases b with
        | true =>
          refine codeAny_handlers_suite_as ?_
          refine HandSPX.lands_againZ fl3 fun h4 fl4 up4 => ?_
          have J4 : Inv X pins σ' H' { s' with heap := h4 } := J.landed nb fl4.1 ((up.trans up3).trans up4) os ag
          obtain ⟨oe4, vs4, he4, hz4, hd4⟩ := fl4.there
          have S4 := J4.suite he4 hd4 na nL nF
          refine store_ok (X := X.suite a ((a, oe4) :: (X.pn ++ pins))) (v := .ref a) S4 hN hi hloc rfl (fun s5 S5 => ?_) (.inr hln)
          refine wpAny_mono ((hsu a oe4 cls d (X.pn ++ pins) hz4 ⟨_, hd4⟩).run [] s5 _ H' _ S5 (hyes rfl a na)) (fun f s6 hsp => ?_) (fun _ _ z => False.elim z)
          have end_ : ∀ {σ6 : L2.St} {H6 : Hp} {Q : Shared → Prop}, Inv (X.suite a ((a, oe4) :: (X.pn ++ pins))) [] σ6 H6 s6 → (∀ s7, Inv X pins (σ6.set i none) H6 s7 → Q s7) →
              wpAny (model X.prog X.w) X.A (do bindName X.env n .none; unbindBehindTheSuite X.env n pos') (fun _ s7 => Q s7) X.xe s6 := fun {σ6 H6 Q} S6 hq => gone_ok (S6.unsuite ok) hN hi hln hq
          cases f with
          | next =>
            obtain ⟨σ6, H6, S6, q6⟩ := hsp
            exact end_ S6 fun s7 J7 => ⟨_, _, J7, q6⟩
          | brk =>
            obtain ⟨σ6, H6, S6, q6⟩ := hsp
            exact end_ S6 fun s7 J7 => ⟨_, _, J7, q6⟩
          | cont =>
            obtain ⟨σ6, H6, S6, q6⟩ := hsp
            exact end_ S6 fun s7 J7 => ⟨_, _, J7, q6⟩
          | ret u =>
            obtain ⟨v6, σ6, H6, S6, r6, q6⟩ := hsp
            exact end_ S6 fun s7 J7 => ⟨_, _, _, J7, r6, q6⟩
        | false =>
          show wpAny _ X.A (handleBy (.ref a) X.env hds2) _ _ _
          exact ih (hno rfl)
    exact go hh w
  · cases f with
    | next =>
      obtain ⟨σ', H', J', q⟩ := hsp
      exact wpAny_execs_nil ⟨σ', H', J'.ofTry ok, q⟩
    | brk =>
      obtain ⟨σ', H', J', q⟩ := hsp
      exact ⟨σ', H', J'.ofTry ok, q⟩
    | cont =>
      obtain ⟨σ', H', J', q⟩ := hsp
      exact ⟨σ', H', J'.ofTry ok, q⟩
    | ret u =>
      obtain ⟨v, σ', H', J', r, q⟩ := hsp
      exact ⟨v, σ', H', J'.ofTry ok, r, q⟩
end
end Rf
set_option maxHeartbeats 4000000
/-! an own exception over IndexError: __init__(self, given): super().__init__(given); self.given = given -/
namespace PySem
namespace SupX
open PySem.W PySem.HandSPX PySem.Calls PyProof.Rows Builtin Builtin.ObjectAttr
abbrev idx : List Value := [.type "IndexError", .type "LookupError", .type "Exception", .type "BaseException", .type "object"]
def iA (p1 p2 : Pos) : Arguments := { posonlyargs := [], args := [{ arg := "self", annotation := none, pos := p1 }, { arg := "given", annotation := none, pos := p2 }], vararg := none, kwonlyargs := [], kw_defaults := [], kwarg := none, defaults := [] }
def iB (a1 a2 a3 a4 a5 a6 q1 q2 q3 q4 : Pos) : List Stmt := [.Expr (.Call (.Attribute (.Call (.Name "super" a1) [] [] a2) "__init__" a3) [.Name "given" a4] [] a5) a6, .Assign [.Attribute (.Name "self" q1) "given" q2] (.Name "given" q3) q4]
def iS : Scope := { kind := .function, names := [(PySem.Str.ofString "self", .local), (PySem.Str.ofString "given", .local), (PySem.Str.ofString "__class__", .free), (PySem.Str.ofString "super", .globalImplicit)], isGenerator := false, isCoroutine := false, more := [] }
structure SupTxt (P : Program) (K : Frag) (C fI : Addr) : Prop where
  ini : excInitIn K C idx "IndexError.__new__" = true
  ovr : excOver K C idx = true
  hd : ∃ cd, clsIn K C = some cd ∧ cd.hasDict = true
  sa : findIn K (.ref C) "__setattr__" = some (some (.builtin "object.__setattr__"))
  noN : findIn K (.ref C) "given" = some none
  iC : findIn K (.ref C) "__init__" = some (some (.ref fI))
  tC : isFn K (.ref fI) = true
  sI : ks_superIn K C C "__init__" = some (some (.builtin "IndexError.__init__"))
  sB : subIn K (.ref C) (.type "IndexError") = some true
  any : nsIn K cStatics "thirdparty.any" = some none
  mS : mroIn K C (.ref C) = some true
  top : (P.main.scope.names.lookup ("super" : Str)).isSome = false
  fn : ∃ (oc : Value) (od : Option Addr) (doc pm : Value) (an : Option Addr) (ct : Value) (osl : Array (Option Value)) (p1 p2 a1 a2 a3 a4 a5 a6 q1 q2 q3 q4 : Pos) (cc cda : Addr) (ccl : Value) (cdd : Option Addr) (vs : Array Value) (ccs : Array (Option Value)) (file : Str) (tf : Tok) (cl : Value) (cld : Option Addr) (csl : Array (Option Value)),
    (a3.endLine == a5.line) = true ∧ K.lookup fI = some ⟨oc, od, .func (ksFn "__init__" "InvalidNumber.__init__" (iA p1 p2) (iB a1 a2 a3 a4 a5 a6 q1 q2 q3 q4) iS .none .none doc pm an (.ref cda) ct cc), osl⟩ ∧ codeIn K (.ref cda) "InvalidNumber.__init__" = true ∧
    K.lookup cda = some ⟨ccl, cdd, .fields vs, ccs⟩ ∧ vs[2]? = some (.str file tf) ∧ (P.main.file == file) = true ∧ K.lookup cc = some ⟨cl, cld, .cell (some (.ref C)), csl⟩
/-- the builtins and the globals as the module has them -/
structure Gb (h : Heap) (mg : Str → Option Value) : Prop where
  g : h.Ns mainGlobals mg
  ns : mg "super" = none
  b : ∃ mb, h.Ns builtinsNs mb ∧ mb "super" = some (.type "super")
theorem Gb.keeps {h h' : Heap} {mg : Str → Option Value} (x : Gb h mg) (k : ∀ b o, h.get? b = some o → h'.get? b = some o) : Gb h' mg := ⟨x.g.keeps k, x.ns, let ⟨mb, b1, b2⟩ := x.b; ⟨mb, b1.keeps k, b2⟩⟩
structure InitEnd (h h' : Heap) (x C dx t1 : Addr) (v : Value) : Prop where
  keep : ∀ b o, b ≠ x → h.get? b = some o → h'.get? b = some o
  obj : h'.get? x = some { cls := .ref C, dict := some dx, data := .fields #[.ref t1, .none, .none, .none, .bool false, .none] }
  dbig : h.objs.size ≤ dx
  dne : dx ≠ x
  ns : h'.Ns1 dx (fun y => if y = "given" then some v else none)
theorem ldX {M : Model} {s : Shared} {name : Str} {scope : Scope} {L a : Addr} {cd : Value} {cl : List (Str × Addr)} {m : Str → Option Value} {x : Str} {pos : Pos} {v : Value} {Q : Value → Shared → Prop} {A : Around} {E : Value → Shared → Prop} (hn : s.heap.Ns L m) (hv : m x = some v) (h : Q v s)
    (hk : scope.kind = .function := by rfl) (hl : (envX name scope L a cd cl).kindOf x = some .local := by rfl) (hd : (x == ("__debug__" : Str)) = false := by decide) :
    wpAny M A (eval (.Name x pos) (envX name scope L a cd cl)) Q E s := wpAny_Name (wpAny_loadName_local hk hl hn hv h) hd
section
variable {prog : Program} {w : World} {A : Around} {E : Value → Shared → Prop} {R : Result → Shared → Prop} {hp : Heap} {g : Array GenState} {d : Drawn} {t : Nat} {os : OsState} {K : Frag} {x C : Addr}
/-- the built-in __init__ bound to x, called -/
theorem call_mw {u t0 : Addr} {rest : List Value} {Q : Value → Shared → Prop} (X : K.In hp) (q : excInitIn K C idx "IndexError.__new__" = true) (hu : hp.get? u = some (kxs_mw "IndexError.__init__" x)) (he : hp.get? x = some (excO C t0)) (hz : rest.length ≤ sizeLine)
    (h : ∀ h' t1, (∀ b o, b ≠ x → hp.get? b = some o → h'.get? b = some o) → h'.get? x = some (excO C t1) → Q .none ⟨h', g, d, t, os⟩) :
    wpAny (model prog w) A (call (.ref u) rest) Q E ⟨hp, g, d, t, os⟩ := by
  obtain ⟨nm, N', qn, bs, bm, hdct, sn, sub, ab, col, dd, k0, k1, k2, k3, k5, hC, hT⟩ := excInit_of X q
  refine wpAny_call (codeAny_of_tree ?_)
  show wpAny _ A.in1 (callAny (.ref u) ⟨rest, []⟩) _ _ _
  simp only [callAny]
  refine wpAny_bind (wpAny_load hu ?_)
  simp only [kxs_mw, show (Value.type "method-wrapper" == Value.type "method" || Value.type "method-wrapper" == Value.type "builtin_function_or_method" || Value.type "method-wrapper" == Value.type "method-wrapper") = true by decide, if_true]
  refine KFB.if_so (by decide) ?_
  refine wpAny_bind (check_bound_init F.excBase_IndexError.toExcCallFacts hC he rfl ?_)
  refine wpAny_bind (wpAny_pure (wpAny_pure ?_))
  refine ⟨plainId_quiet F.excBase_IndexError.init.plain _, codeAny_builtin F.excBase_IndexError.initEntry ?_⟩
  exact exc_init_tree (cls := .ref C) (t0 := t0) (dv := none) (c2 := .none) (c3 := .none) (b4 := .bool false) he hz fun h' k e' t' => h h' hp.objs.size k e'
/-- self.given = v on an exception without dict -/
theorem osa_idx {name : Str} {tk : Tok} {v : Value} {fv : Array Value} {cd : ClassData}
    (X : K.In hp) (hx : hp.get? x = some { cls := .ref C, data := .fields fv }) (hcd : clsIn K C = some cd) (ho : excOver K C idx = true) (hh : cd.hasDict = true) (ha : findIn K (.ref C) name = some none)
    (hq : ∀ h' tk' dx, (∀ b o, b ≠ x → hp.get? b = some o → h'.get? b = some o) → hp.objs.size ≤ dx → dx ≠ x → h'.get? x = some { cls := .ref C, dict := some dx, data := .fields fv } →
      h'.Ns1 dx (fun y => if y = name then some v else none) → R (.ok (.ret .none)) ⟨h', g, d, tk', os⟩) :
    codeAny (model prog w) A (.call (.builtin "object.__setattr__") ⟨[.ref x, .str name tk, v], []⟩) R ⟨hp, g, d, t, os⟩ := by
  have I : InstAt hp x { cls := .ref C, data := .fields fv } C none := ⟨hx, rfl, rfl, trivial⟩
  have hxs : x ≠ hp.objs.size := Nat.ne_of_lt (Heap.lt_size hx)
  have hcls : Looks (model prog w) hp (classData C) cd := looks_clsIn X hcd
  refine osa_openX (r := none) F.store_IndexError X I ho (by unfold takerIn; rw [ha]; rfl) fun b => ?_
  obtain ⟨nm, bs, mro, ns, qn, hd, sn, sb, ab, col, del⟩ := cd
  dsimp only at hh
  subst hh
  show wpAny _ _ (storeInOwnDict (.ref x) (.ref C) (.str name tk) name v b) _ _ _
  unfold storeInOwnDict ownDictForStores
  repeat (first | with_reducible refine store_in_new ?_ ?_ | with_reducible refine wpAny_loadPart_at hx ?_ | with_reducible refine hcls.at ?_ | wp_step)
  · exact ⟨_, #[], _, (Heap.get?_update_ne _ _ _ _ hxs.symm).trans (Heap.get?_push_at rfl rfl), rfl, fun e he => absurd he (by simp), fun _ => rfl⟩
  · intro h' tk' hn' hs
    have hx₁ : (hp.push { cls := .type "dict", data := .dict #[] }).get? x = some { cls := .ref C, data := .fields fv } := Heap.get?_push_of_some _ hx
    refine hq h' tk' hp.objs.size (fun b o hb ho => ?_) (Nat.le_refl _) hxs.symm ?_ hn'
    · exact (hs.2 b (Nat.ne_of_lt (Heap.lt_size ho))).trans ((Heap.get?_update_ne _ _ _ _ hb).trans (Heap.get?_push_of_some _ ho))
    · exact (hs.2 x hxs).trans (Heap.get?_update_self _ hx₁ rfl)
end
end SupX
end PySem
set_option maxHeartbeats 4000000
namespace PySem
namespace SupX
open PySem.W PySem.HandSPX PySem.Calls PyProof.Rows Builtin Builtin.ObjectAttr
section
variable {prog : Program} {w : World} {A : Around} {E : Value → Shared → Prop} {R : Result → Shared → Prop} {s : Shared} {K : Frag} {mg : Str → Option Value} {C fI : Addr}
theorem one_sz (v : Value) : [v].length ≤ sizeLine := by
  rw [sizeLine_eq]
  exact (by decide : 1 ≤ 16777216)
theorem kept_but {K : Frag} {h h' : Heap} {x : Addr} (X : K.In h) (hx : K.lookup x = none) (k : ∀ b o, b ≠ x → h.get? b = some o → h'.get? b = some o) : K.In h' := fun a o e =>
  k a o (fun z => by rw [z, hx] at e; cases e) (X a o e)
theorem call_form {o : Expr} {name : Str} {apos pos : Pos} {e : Expr} {env : Env} (hl : (apos.endLine == pos.line) = true) (he : starEach [e] env = [(false, eval e env)]) :
    eval (.Call (.Attribute o name apos) [e] [] pos) env = (do
      let ov ← attributeBase o name env (eval o env)
      standAt apos.atName
      let (f, first) ← holding [ov] (getMethod ov name (do return (← importBound o env).getD true))
      callWith pos f first (backTo pos (starEach [e] env)) []) := by
  rw [arm_eval_Call]
  have hform : methodCallForm ([e].length + ([] : List Keyword).length) (backTo pos (starEach [e] env)) (backToKw pos (keywordEach [] env)) = true := by rw [he]; rfl
  have hpos : methodCallPos true o env apos pos = pure pos := by unfold methodCallPos; simp [hl]
  unfold methodCall calleeOf
  rw [hform, hpos]
  simp only [if_true, pure_bind]
  rfl
theorem sup_init (T : SupTxt prog K C fI) {x t0 : Addr} {v : Value} (X : K.In s.heap) (hlim : s.heap.NoLimit) (G : Gb s.heap mg) (hx : s.heap.get? x = some (excO C t0)) (hnx : K.lookup x = none) (hroom : A.depth < recursionLimit)
    (hq : ∀ h' tk dx t1, InitEnd s.heap h' x C dx t1 v → R (.ok (.ret .none)) { s with heap := h', toks := tk }) :
    codeAny (model prog w) A (.call (.ref fI) ⟨[.ref x, v], []⟩) R s := by
  obtain ⟨oc, od, doc, pm, an, ct, osl, p1, p2, a1, a2, a3, a4, a5, a6, q1, q2, q3, q4, cc, cda, ccl, cdd, vs, ccs, file, tf, cl, cld, csl, hline, ho, hcd, hcode, hvs, hfile, hcell⟩ := T.fn
  obtain ⟨cd, hcl, hh⟩ := T.hd
  have hsI := T.sI
  unfold ks_superIn at hsI
  rw [hcl] at hsI
  refine ks_codeAny_call_defAt (fd := ksFn "__init__" "InvalidNumber.__init__" (iA p1 p2) (iB a1 a2 a3 a4 a5 a6 q1 q2 q3 q4) iS .none .none doc pm an (.ref cda) ct cc) (body := iB a1 a2 a3 a4 a5 a6 q1 q2 q3 q4) (binds := [("self", .ref x), ("given", v)])
    hroom (X _ _ ho) rfl hlim (codeRec_of X hcd) rfl (BindsTo.of_eq (by first | rfl | with_unfolding_all rfl)) (show ∀ y ∈ iS.names, y.2 ≠ .cell by decide) ?hloc (fun h₁ hn k => ?_) rfl rfl rfl
  case hloc =>
    intro y hy
    simp only [List.mem_cons, List.not_mem_nil, or_false] at hy
    rcases hy with rfl | rfl <;> rfl
  have X₁ : K.In h₁ := X.keeps k
  have G₁ : Gb h₁ mg := G.keeps k
  have hx₁ := k _ _ hx
  obtain ⟨mb, B1, B2⟩ := G₁.b
  obtain ⟨oD, hD1, hD2⟩ : ∃ oD, h₁.get? C = some oD ∧ oD.data = .cls cd := by
    unfold clsIn at hcl
    split at hcl
    · rename_i c d cd' sl ho
      cases hcl
      exact ⟨_, X₁ _ _ ho, rfl⟩
    · cases hcl
  show _root_.PySem.wpAt (model prog w) (A.deeper (ksEnv "InvalidNumber.__init__" iS s.heap.objs.size fI (.ref cda) cc)) (.func (iB a1 a2 a3 a4 a5 a6 q1 q2 q3 q4) (ksEnv "InvalidNumber.__init__" iS s.heap.objs.size fI (.ref cda) cc)) (execs (iB a1 a2 a3 a4 a5 a6 q1 q2 q3 q4) (ksEnv "InvalidNumber.__init__" iS s.heap.objs.size fI (.ref cda) cc)) _ _ _
  refine ks_wpAt_execs_cons (ks_wpAt_Expr_any ?_ rfl rfl)
  refine ks_wpAt_MethodCall ?_ (call_form hline rfl)
  · refine ks_wpAt_super_base (env := ksEnv "InvalidNumber.__init__" iS s.heap.objs.size fI (.ref cda) cc) rfl rfl rfl rfl (X₁ _ _ ho) rfl rfl rfl (X₁ _ _ hcode) rfl hvs hfile T.top ?_
    refine ks_loadName_global rfl rfl (loadGlobal_builtin (env := ksEnv "InvalidNumber.__init__" iS s.heap.objs.size fI (.ref cda) cc) G₁.g G₁.ns B1 B2 ⟨rfl, ?_⟩)
    refine wpAny_loadName_free rfl rfl rfl ⟨_, X₁ _ _ hcell, rfl⟩ ?_
    refine wpAny_loadName_local rfl rfl hn (v := .ref x) rfl ?_
    refine ks_wpAny_isType_cls hD1 hD2 ⟨rfl, ?_⟩
    refine ks_wpAny_call_super hD1 hD2 hx₁ rfl (fun c e => nomatch e) (looks_mroIn X₁ T.mS) (fun h₂ e2 k2 => ?_)
    have X₂ : K.In h₂ := X₁.keeps k2
    have hx₂ := k2 _ _ hx₁
    have I₂ : InstAt h₂ x (excO C t0) C none := ⟨hx₂, rfl, rfl, trivial⟩
    refine kxs_getMethod kxs_IndexError e2 (looks_opaque X₂ T.any) (l₀ := cd.mro) (fun A Q E s k q => wpAny_bind ((looks_clsIn X₂ hcl) A _ E s k (wpAny_pure q))) rfl X₂ hsI (I₂.type.andThen (looks_subIn X₂ T.sB)) (ks_ne X₂ I₂ hcl) rfl ?_
    have n2 := Nat.lt_irrefl
    have k3 : ∀ b o, h₂.get? b = some o → (h₂.push (kxs_mw "IndexError.__init__" x)).get? b = some o := fun b o e => Heap.get?_push_of_some _ e
    have hu : (h₂.push (kxs_mw "IndexError.__init__" x)).get? h₂.objs.size = some (kxs_mw "IndexError.__init__" x) := Heap.get?_push_size _ rfl
    have X₃ := X₂.keeps k3
    have hx₃ := k3 _ _ hx₂
    have hn₃ := (hn.keeps k2).keeps k3
    refine kxs_callWith (i := "IndexError.__init__") (x := x) rfl (evalArgs_plain (spliced_cons (ldX hn₃ (v := v) rfl (spliced_nil ⟨hu, ?_⟩))))
    have hxL : s.heap.objs.size ≠ x := Nat.ne_of_gt (Heap.lt_size hx)
    show wpAny (model prog w) _ (call (.ref h₂.objs.size) [v]) _ _ ⟨_, _, _, _, _⟩
    refine call_mw X₃ T.ini hu hx₃ (one_sz v) fun h₄ t1 k4 hx₄ => ?_
    have k14 : ∀ b o, b ≠ x → s.heap.get? b = some o → h₄.get? b = some o := fun b o hb e => k4 b o hb (k3 _ _ (k2 _ _ (k _ _ e)))
    have hn₄ : h₄.Ns s.heap.objs.size (fun y => ([("self", .ref x), ("given", v)] : List (Str × Value)).reverse.lookup y) := by
      obtain ⟨oL, es, ep, hL, r⟩ := hn₃
      exact ⟨oL, es, ep, k4 _ _ hxL hL, r⟩
    have X₄ : K.In h₄ := kept_but X₃ hnx k4
    refine _root_.PySem.wpAt_of_wpAny ?_
    refine wpAny_execs_cons (plainObj_wpAny_Assign_Attribute ?_ rfl)
    refine ldX (v := v) hn₄ rfl (ldX (v := .ref x) hn₄ rfl ?_)
    refine set_plain X₄ (ox := excO C t1) (od := none) ⟨hx₄, rfl, rfl, trivial⟩ T.sa ?_
    refine osa_idx X₄ hx₄ hcl T.ovr hh T.noN fun h₅ tk₅ dx k5 dn dne hx₅ hn₅ => ?_
    show wpAny _ _ (execs _ _) _ _ _
    have hle : s.heap.objs.size ≤ h₄.objs.size := by
      obtain ⟨oL, es, ep, hL, r⟩ := hn₄
      exact Nat.le_of_lt (Heap.lt_size hL)
    exact wpAny_execs_nil (hq h₅ tk₅ dx t1 ⟨fun b o hb e => k5 b o hb (k14 b o hb e), hx₅, Nat.le_trans hle dn, dne, hn₅⟩)
structure OwnMade (h h' : Heap) (e C d : Addr) (v : Value) : Prop where
  keep : ∀ b o, h.get? b = some o → h'.get? b = some o
  new : h.objs.size ≤ e
  obj : ∃ oe vs, h'.get? e = some oe ∧ oe.cls = .ref C ∧ oe.dict = some d ∧ oe.data = .fields vs ∧ vs[1]? = some .none
  dbig : h.objs.size ≤ d
  dne : d ≠ e
  ns : h'.Ns1 d (fun y => if y = "given" then some v else none)
theorem sup_made (T : SupTxt prog K C fI) {v : Value} (X : K.In s.heap) (hlim : s.heap.NoLimit) (G : Gb s.heap mg) (hroom : A.depth + 1 < recursionLimit)
    (hq : ∀ h' tk e d, OwnMade s.heap h' e C d v → R (.ok (.ret (.ref e))) { s with heap := h', toks := tk }) :
    codeAny (model prog w) A (.call (.ref C) ⟨[v], []⟩) R s := by
  obtain ⟨nm, N', qn, bs, bm, hdct, sn, sub, ab, col, dd, k0, k1, k2, k3, k5, hC, hT⟩ := excInit_of X T.ini
  obtain ⟨hp, g, dr, tk, os⟩ := s
  have k : ∀ b o, hp.get? b = some o → ((hp.push (kdv_tup [v])).push (excO C hp.objs.size)).get? b = some o := fun b o e => Heap.get?_push_of_some _ (Heap.get?_push_of_some _ e)
  have hget : ((hp.push (kdv_tup [v])).push (excO C hp.objs.size)).get? (hp.objs.size + 1) = some (excO C hp.objs.size) := by heap_get
  have hnx : K.lookup (hp.objs.size + 1) = none := by
    cases e : K.lookup (hp.objs.size + 1) with
    | none => rfl
    | some o =>
      have z : hp.get? (hp.objs.size + 1) = some o := X _ _ e
      exact absurd (Nat.lt_of_succ_lt (Heap.lt_size z)) (Nat.lt_irrefl _)
  obtain ⟨oI, hoI, hcI⟩ : ∃ oI, hp.get? fI = some oI ∧ oI.cls = .type "function" := by
    obtain ⟨o, ho, hc⟩ := Option.map_eq_some_iff.mp (show (K.lookup fI).map (·.cls) = some (.type "function") from beq_iff_eq.mp T.tC)
    exact ⟨o, X _ _ ho, hc⟩
  refine HandSPX.call_own F.excBase_IndexError hT hC (looks_findIn X T.iC) (fun self => exc_bind hoI hcI self) (one_sz v) ?_
  refine sup_init (s := ⟨(hp.push (kdv_tup [v])).push (excO C hp.objs.size), g, dr, tk, os⟩) (mg := mg) T (X.keeps k) (hlim.keeps k) (G.keeps k) hget hnx ?_ fun h' tk' dx t1 ⟨k', hx, dn, dne, hns⟩ => ?_
  · show A.depth + 1 < recursionLimit
    exact hroom
  · have old : ∀ b o, hp.get? b = some o → h'.get? b = some o := fun b o e => k' b o (Nat.ne_of_lt (Nat.lt_succ_of_lt (Heap.lt_size e))) (k b o e)
    have z : hp.objs.size + 1 + 1 ≤ dx := by
      first
        | (simpa only [Heap.size_push] using dn)
        | exact dn
        | (have q := dn; rw [Heap.size_push, Heap.size_push] at q; exact q)
    exact ⟨rfl, hq h' tk' (hp.objs.size + 1) dx ⟨old, Nat.le_succ _, ⟨_, _, hx, rfl, rfl, rfl, rfl⟩, Nat.le_trans (Nat.le_trans (Nat.le_succ _) (Nat.le_succ _)) z, dne, hns⟩⟩
end
end SupX
end PySem
set_option maxHeartbeats 4000000
namespace Rf
open PySem PySem.Spec PyProof.Rows L2 RfE
/-! ### raise -/
theorem relO_given {v : V} {v' : Value} (r : L2.RelV v v') (f : Str) : RelO (List.lookup f [(("given" : Str), v)]) (if f = "given" then some v' else none) := by
  by_cases hw : f = "given"
  · subst hw
    rw [if_pos rfl]
    have q : List.lookup ("given" : Str) [(("given" : Str), v)] = some v := by simp [List.lookup]
    rw [q]
    exact r
  · rw [if_neg hw]
    have qw : (f == ("given" : Str)) = false := by simpa using hw
    have q2 : List.lookup f [(("given" : Str), v)] = none := by simp [List.lookup, qw]
    rw [q2]
    trivial
/-- C(e): an exception without fields -/
def MkPlain (X : Cx) (x : Str) (C : Addr) : Prop := ∀ (e : Expr) (ta : TE) (p pos : Pos), PE X e ta → plainE e = true → PMk X (.Call (.Name x p) [e] [] pos) (fun σ H Q => ta σ H fun _ H1 => Q (.ref C) none H1)
/-- C(e): an exception with the one field f -/
def MkFld (X : Cx) (x : Str) (C : Addr) (f : Str) : Prop := ∀ (e : Expr) (ta : TE) (p pos : Pos), PE X e ta → plainE e = true → PMk X (.Call (.Name x p) [e] [] pos) (fun σ H Q => ta σ H fun v H1 => ∀ d, H1 d = none → Q (.ref C) (some d) (upd H1 d (.xd [(f, v)])))
theorem mk_plain {X : Cx} {C : Addr} {bmB : List Value} {B newId initId : String} {x : Str} (F : ExcBaseFacts B newId initId bmB) (q : PySem.W.excIn X.K C bmB newId = true) (gC : X.mg x = some (.ref C)) (kC : PySem.W.keepIn X.K (.ref C) = true) (r : Raises X (.ref C)) (hg : Gl X x)
    (hdb : (x == ("__debug__" : Str)) = false) : MkPlain X x C := fun e ta p pos he hp => SkE.pmk_own1 F q gC kC r hg he (star_of hp _ _) hdb
theorem mk_sup {X : Cx} {C fI : Addr} {k : Nat} {x : Str} (T : PySem.SupX.SupTxt X.prog X.K C fI) (gC : X.mg x = some (.ref C)) (kC : PySem.W.keepIn X.K (.ref C) = true) (r : Raises X (.ref C)) (hr : Room k X.A) (hms : X.mg "super" = none) (hg : Gl X x)
    (hdb : (x == ("__debug__" : Str)) = false) : MkFld X x C "given" := by
  intro e ta p pos he hp pins s σ H Q I h
  refine wpAny_Call_Name_kw (ld_glob I hg gC ?_ hdb)
  refine PySem.W.callWith_K (h₀ := X.base) I.ok.mod.kin kC ?_ (star_of hp _ _) rfl
  rw [star_of hp]
  show wpAny _ _ (spliced ((false, eval e X.env) :: backTo pos (starEach [] X.env))) _ _ s
  refine Calls.spliced_cons (thn (he.run pins s σ H _ I h) fun v' s1 ⟨v, H1, I1, rv, q1⟩ => ?_)
  refine Calls.spliced_nil ⟨I1.kIn, ?_⟩
  show wpAny _ _ (call (.ref C) [v']) _ _ _
  have hlim := I1.nolimit
  have hG : PySem.SupX.Gb s1.heap X.mg := by
    obtain ⟨mb, h1, h2⟩ := I1.mod.blt
    exact ⟨I1.mod.glob.keeps I1.bk, hms, mb, h1.keeps I1.bk, (h2 _ (by decide +kernel)).trans (by decide +kernel)⟩
  obtain ⟨hp', g, dr, tk, os⟩ := s1
  refine wpAny_call (PySem.SupX.sup_made T I1.kIn hlim hG (by have := hr.dp; omega) fun h' tk' e d M => ?_)
  show MkP X pins σ Q (.ref e) ⟨h', g, dr, tk', os⟩
  obtain ⟨oe, fv, hoe, hc, hd, hdat, h1⟩ := M.obj
  have hns := M.ns
  obtain ⟨G', g1, g2⟩ := restrict h' fun b => decide (b ≠ e)
  have gk : ∀ b, b ≠ e → G'.get? b = h'.get? b := fun b hb => g1 b (decide_eq_true hb)
  have ge : G'.get? e = none := g2 e (by simp)
  have old : ∀ b o, hp'.get? b = some o → G'.get? b = some o := fun b o q => (gk b (Nat.ne_of_lt (Nat.lt_of_lt_of_le (Heap.lt_size q) M.new))).trans (M.keep b o q)
  have ob : ObjOk X.prog X.w (upd H1 d (.xd [(("given" : Str), v)])) G' d (.xd [(("given" : Str), v)]) :=
    ⟨_, hns.at (fun o q => (gk d M.dne).trans q), fun f => relO_given rv f⟩
  have J : Inv X pins σ (upd H1 d (.xd [(("given" : Str), v)])) ⟨G', g, dr, tk', os⟩ := I1.laid (t' := tk') old M.dbig ob
  refine ⟨e, oe, fv, ⟨G', g, dr, tk', os⟩, _, .ref C, some d, rfl, J, fun b o q => ?_, ge, hoe, ⟨hc, hd⟩, hdat, h1, ?_, rfl, I1.bare, r, q1 d (I1.hok.fresh M.dbig)⟩
  · by_cases hb : b = e
    · have q' : G'.get? b = some o := q
      rw [hb, ge] at q'; cases q'
    · exact (gk b hb).symm.trans q
  · rw [upd_ne (Ne.symm M.dne)]
    exact I1.hok.fresh M.new
section
variable {X : Cx} {g : Gs} {W : WX} {q : Iv g} {c : Cf} {hb : Hbt} {a b d e : Expr} {i j k : IE} {pos : Pos}
theorem s_raise0 {ci : Nat} {x : Str} {p p2 : Pos} (hc : X.calm = true) (tk : Takes X W) (hm : MkPlain X x (g.cl ci)) (hp : plainE a = true) (ha : NE X g W q c hb a i) : NS X g W q c hb (.Raise (some (.Call (.Name x p) [a] [] p2)) none pos) (.rais ci none i) :=
  .mk fun n => (ps_raise hc tk (hm a _ p p2 (ha n) hp)).of fun D σ H ⟨m, s, h, A, S⟩ => ⟨m, s, h, A, (Sat.bind S).imp fun u h1 m1 H1 l1 hr1 S1 v rv =>
    (show XS g W m1 H1 ci [] s h1 from S1) m1 H1 σ none (Le.refl _ _ _) hr1 (A.sr.mono l1) (.inl ⟨rfl, rfl⟩)⟩
theorem s_raise1 {ci : Nat} {x f : Str} {p p2 : Pos} (hc : X.calm = true) (tk : Takes X W) (hm : MkFld X x (g.cl ci) f) (hp : plainE a = true) (ha : NE X g W q c hb a i) : NS X g W q c hb (.Raise (some (.Call (.Name x p) [a] [] p2)) none pos) (.rais ci (some f) i) :=
  .mk fun n => (ps_raise hc tk (hm a _ p p2 (ha n) hp)).of fun D σ H ⟨m, s, h, A, S⟩ => ⟨m, s, h, A, (Sat.bind S).imp fun u h1 m1 H1 l1 hr1 S1 v rv dd hd => by
    have S1 : XS g W m1 H1 ci [(f, u)] s h1 := S1
    have L := Le.put (g := g) (m := m1) (o := .xd [(f, v)]) hd
    refine S1 m1 _ σ (some dd) L (hr1.put hd) ((A.sr.mono l1).mono L) (.inr ⟨dd, [(f, v)], rfl, upd_same, hr1.fresh hd, by simp, fun f' u' e => ?_⟩)
    rw [List.lookup_cons] at e ⊢
    split at e
    · cases e
      exact ⟨v, rfl, VR.mono L _ _ rv⟩
    · cases e⟩
/-! ### a caught exception's field -/
structure FldF (K : PySem.W.Frag) (C : Addr) (f : Str) : Prop where
  ga : PySem.W.findIn K (.ref C) "__getattribute__" = some (some (.builtin "BaseException.__getattribute__"))
  gg : PySem.W.findIn K (.ref C) "__getattr__" = some none
  exC : PySem.W.subIn K (.ref C) (.type "BaseException") = some true
  hdC : PySem.W.hasDictIn K C = true
  noN : PySem.W.findIn K (.ref C) f = some none
def tFld (f : Str) (a : Addr) (d : Option Addr) (te : TE) : TE := fun σ H Q => te σ H fun x H1 => x = .ref a ∧ ∃ (dd : Addr) (l : List (Str × V)) (v : V), d = some dd ∧ H1 dd = some (.xd l) ∧ l.lookup f = some v ∧ Q v H1
theorem pe_fld {a C : Addr} {f : Str} {oe : Obj} {d : Option Addr} {pn : List (Addr × Obj)} {e : Expr} {te : TE} {pos : Pos} (T : FldF X.K C f) (hz : Zc (.ref C) d oe) (hf : ∃ vs, oe.data = .fields vs) (he : PE (X.suite a ((a, oe) :: pn)) e te)
    (hb : attributeBase e f X.env (eval e X.env) = eval e X.env) :
    PE (X.suite a ((a, oe) :: pn)) (.Attribute e f pos) (tFld f a d te) := by
  refine ⟨fun pins s σ H Q I h => ?_⟩
  refine attr_of hb (thn (he.run pins s σ H _ I h) fun u s1 hh => ?_)
  obtain ⟨x, H1, I1, rx, ex, dd, l, v, ed, ea, hl', q⟩ := hh
  subst ex
  obtain rfl : u = Value.ref a := rx
  subst ed
  obtain ⟨ha, _⟩ := I1.pin (a, oe) (List.mem_append_left _ List.mem_cons_self)
  obtain ⟨vs, hd⟩ := hf
  have hx : ObjOk X.prog X.w H1 s1.heap dd (.xd l) := I1.hok dd _ ea
  obtain ⟨mA, hns, hr⟩ := hx
  obtain ⟨od, ho, hl⟩ := lookIn_ns hns
  obtain ⟨u, hu, ru⟩ := RelO.some_of (v := v) (o := mA f) (by rw [← hl']; exact hr f)
  have J : PySem.W.InstAt s1.heap a oe C (some od) := ⟨ha, hz.1, by unfold PySem.W.notCls; rw [hd] <;> rfl, by rw [hz.2]; exact ho⟩
  exact HandSPX.exc_get I1.kIn J T.ga T.gg T.exC (PySem.W.findObj_own T.hdC T.noN rfl (by rw [hl, hu])) (handed_of ru) ⟨v, H1, I1.tok _, ru, q⟩
theorem XR.look {g : Gs} {m : List Addr} {H : Hp} {fs : List (Str × Uv)} {d : Option Addr} (x : XR g m H fs d) {f : Str} {u : Uv} (e : fs.lookup f = some u) : ∃ (dd : Addr) (l : List (Str × V)) (v : V), d = some dd ∧ H dd = some (.xd l) ∧ l.lookup f = some v ∧ VR g m H u v := by
  rcases x with ⟨rfl, _⟩ | ⟨a, l, e1, e2, e3, e4⟩
  · cases e
  · obtain ⟨v, h1, h2⟩ := e4.2 f u e
    exact ⟨a, l, v, e1, e2, h1, h2⟩
/-- what a suite with a name knows: its slot, the exception's fields -/
def qx (g : Gs) (i : Nat) (a : Addr) (fs : List (Str × Uv)) (d : Option Addr) : Iv g := ⟨[(i, a)], fun m H => XR g m H fs d, fun _ _ _ _ l x => x.mono l⟩
theorem n_fld {a : Addr} {oe : Obj} {d : Option Addr} {pn : List (Addr × Obj)} {ix ci : Nat} {nm f : Str} {fs : List (Str × Uv)} {p pos : Pos} (hc : c.fs = fs) (T : FldF X.K (g.cl ci) f) (hz : Zc (.ref (g.cl ci)) d oe) (hf : ∃ vs, oe.data = .fields vs)
    (hN : X.N[ix]? = some nm) (hv : Vis X.env.scope nm) (hd : (nm == ("__debug__" : Str)) = false) (hcd : (nm == ("__classdict__" : Str)) = false) :
    NE (X.suite a ((a, oe) :: pn)) g W (qx g ix a fs d) c hb (.Attribute (.Name nm p) f pos) (.fld f) :=
  .mk fun n => (pe_fld T hz hf (pe_var (X := X.suite a ((a, oe) :: pn)) (i := ix) hN hv hd hcd) (base_of rfl _ _)).of fun σ H Q ⟨m, s, h, A, S⟩ => by
    simp only [stepE, hc] at S
    split at S
    · rename_i u e
      obtain ⟨dd, l, v, e1, e2, e3, e4⟩ := XR.look A.cu.2 e
      exact ⟨.ref a, A.cu.1 (ix, a) List.mem_cons_self, rfl, dd, l, v, e1, e2, e3, same_ok A.hr S e4⟩
    · exact S.no.elim
/-! ### try -/
theorem NSs.big {X : Cx} {g : Gs} {W : WX} {q : Iv g} {cf : List (Str × Uv) → Cf} {fs : List (Str × Uv)} {st : List Stmt} {is : List IS} (h : NSs X g W q (cf fs) noHb st is) : PSs X st (TSv g W q (hbF cf fs is)) := h Rf.big
/-- a suite in its context -/
inductive HsN (X : Cx) (g : Gs) (c : Cf) (cf : List (Str × Uv) → Cf) : List ExceptHandler → List IH → Prop
  | nil : HsN X g c cf [] []
  | cons0 {x : Str} {j : Nat} {b₀ : Stmt} {suite : List Stmt} {is : List IS} {np pos' : Pos} {hds : List ExceptHandler} {ihs : List IH} (hc : Names X x (.ref (g.cl j))) (hex : ∀ k, k < c.ncl → PySem.W.exmOne X.K (.ref (g.cl k)) (.ref (g.cl j)) = some (c.sup k j))
      (hsu : ∀ (a : Addr) (oe : Obj) (cls : Value) (d : Option Addr) (pn : List (Addr × Obj)), Zc cls d oe → (∃ vs, oe.data = .fields vs) → NSs (X.suite a ((a, oe) :: pn)) g W0 (Iv.no g) (cf []) noHb (b₀ :: suite) is) (r : HsN X g c cf hds ihs) :
      HsN X g c cf (.ExceptHandler (some (.Name x np)) none (b₀ :: suite) pos' :: hds) (.mk j none is :: ihs)
  | cons1 {x n : Str} {j i : Nat} {b₀ : Stmt} {suite : List Stmt} {is : List IS} {np pos' : Pos} {hds : List ExceptHandler} {ihs : List IH} (hN : X.N.Nodup) (hi : X.N[i]? = some n) (hln : X.env.kindOf n = some .local) (hc : Names X x (.ref (g.cl j))) (hex : ∀ k, k < c.ncl → PySem.W.exmOne X.K (.ref (g.cl k)) (.ref (g.cl j)) = some (c.sup k j))
      (hsu : ∀ (a : Addr) (oe : Obj) (d : Option Addr) (pn : List (Addr × Obj)) (k : Nat) (fs : List (Str × Uv)), k < c.ncl → c.sup k j = true → (∀ p ∈ fs, c.fld k p.1 = true) → Zc (.ref (g.cl k)) d oe → (∃ vs, oe.data = .fields vs) → NSs (X.suite a ((a, oe) :: pn)) g W0 (qx g i a fs d) (cf fs) noHb (b₀ :: suite) is) (r : HsN X g c cf hds ihs) :
      HsN X g c cf (.ExceptHandler (some (.Name x np)) (some n) (b₀ :: suite) pos' :: hds) (.mk j (some i) is :: ihs)
theorem R.all_catch {α : Type} {P : α → Prop} {E : XP} {f : Nat → List (Str × Uv) → Env' → List Ob → R α} : ∀ {r : R α}, (r.catch f).all P E → r.all P fun k fs s h => (f k fs s h).all P E
  | .ok _, h => h
  | .exc _ _ _ _, h => h
  | .draw _ q, h => fun r hr => R.all_catch (r := q r) (h r hr)
  | .fail, h => h
theorem ret_only {m : List Addr} {H : Hp} {q q' : Iv g} {D D' : Ends} {r : R (Fl × List Ob)} (hD : D'.rt = D.rt) (S : Sat g W m H (r.calm.bind retOnly) (FPost g q D)) : Sat g W0 m H r (FPost g q' D') :=
  (Sat.calm (Sat.bind S)).imp fun f h1 m1 H1 l1 hr1 S1 => by
    cases f with
    | rt u => exact fun v rv => by rw [hD]; exact S1.ok0 hr1 v rv
    | nx s => exact S1.no.elim
    | bk s => exact S1.no.elim
    | ct s => exact S1.no.elim
theorem hs_ok {cf : List (Str × Uv) → Cf} {hds : List ExceptHandler} {ihs : List IH} (x : HsN X g c cf hds ihs) : ∃ l : List Cl1, HdsMx X hds l ∧
    ∀ (k : Nat) (fs : List (Str × Uv)) (s : Env') (h : List Ob) (m : List Addr) (H : Hp) (z : L2.St) (d : Option Addr) (Wout : WX) (D : Ends), k < c.ncl → HR g m H h → SR g m H s z → XR g m H fs d → Sat g Wout m H (handle c (hbF cf) ihs k fs s h) (FPost g q D) → wMix X.K Wout D l (.ref (g.cl k)) d z H := by
  induction x with
  | nil => exact ⟨[], .nil, fun k fs s h m H z d Wout D _ hr hs hx S => (show XS g Wout m H k fs s h from S) m H z d (Le.refl _ _ _) hr hs hx⟩
  | @cons0 x j b₀ suite is np pos' hds ihs hc hex hsu r ih =>
    obtain ⟨l, h1, h2⟩ := ih
    refine ⟨(.ref (g.cl j), none, fun a cls d => TSv g W0 (Iv.no g) (hbF cf [] is)) :: l, .cons0 hc (fun a oe cls d pn hz hf => (hsu a oe cls d pn hz hf).big) h1, fun k fs s h m H z d Wout D hk hr hs hx S => ⟨c.sup k j, hex k hk, fun hb a ha => ?_, fun hb => h2 k fs s h m H z d Wout D hk hr hs hx ?_⟩⟩
    · simp only [handle, hb, if_true] at S
      exact ⟨m, s, h, ⟨hs, hr, ⟨fun p hp => (nomatch hp), trivial⟩⟩, ret_only (D := D) (D' := D) rfl S⟩
    · simpa only [handle, hb, Bool.false_eq_true, if_false] using S
  | @cons1 x n j i b₀ suite is np pos' hds ihs hN hi hln hc hex hsu r ih =>
    obtain ⟨l, h1, h2⟩ := ih
    refine ⟨(.ref (g.cl j), some i, fun a cls d D z H => ∃ k fs, k < c.ncl ∧ c.sup k j = true ∧ (∀ p ∈ fs, c.fld k p.1 = true) ∧ cls = .ref (g.cl k) ∧ TSv g W0 (qx g i a fs d) (hbF cf fs is) D z H) :: l,
      .cons1 hN hi hln hc (fun a oe cls d pn hz hf => ⟨fun pins s0 σ H D I ⟨k, fs, e1, e2, e3, e4, e5⟩ => ?_⟩) h1, fun k fs s h m H z d Wout D hk hr hs hx S => ⟨c.sup k j, hex k hk, fun hb a ha => ?_, fun hb => h2 k fs s h m H z d Wout D hk hr hs hx ?_⟩⟩
    · subst e4
      exact (hsu a oe d pn k fs e1 e2 e3 hz hf).big.run pins s0 σ H D I e5
    · simp only [handle, hb, if_true] at S
      obtain ⟨ct, S⟩ := ite_satb S
      rw [Bool.and_eq_true] at ct
      have hl : i < z.length := by
        rw [← hs.1]
        exact Nat.blt_eq.mp ct.2
      refine ⟨k, fs, hk, hb, List.all_eq_true.mp ct.1, rfl, m, s.set i none, h, ⟨?_, hr, ?_, hx⟩, ret_only (D := D) (D' := asEnds i D) rfl S⟩
      · refine ⟨by rw [List.length_set, List.length_set]; exact hs.1, fun j' u e => ?_⟩
        by_cases hj : i = j'
        · subst hj
          have hl' := (List.getElem?_eq_some_iff.mp e).1
          rw [List.length_set] at hl'
          rw [List.getElem?_set_self hl'] at e
          cases e
        · rw [List.getElem?_set_ne hj] at e
          obtain ⟨v, a1, b1⟩ := hs.2 j' u e
          exact ⟨v, by rw [List.getElem?_set_ne hj]; exact a1, b1⟩
      · intro p hp
        rw [show p = (i, a) from by simpa [qx] using hp]
        exact List.getElem?_set_self hl
    · simpa only [handle, hb, Bool.false_eq_true, if_false] using S
theorem s_try {cf : List (Str × Uv) → Cf} {body : List Stmt} {ib : List IS} {h₀ : ExceptHandler} {hds : List ExceptHandler} {ihs : List IH} (hs : X.stack = X.env :: X.outer) (hf : X.env.frame = some X.env.locals) (tk : Takes X W)
    (hbody : ∀ (W' : WX) (pn : List (Addr × Obj)) (xe : Value → Shared → Prop), Takes (X.tr pn xe) W' → PassesOwn (model X.prog X.w) X.A X.env xe → NSs (X.tr pn xe) g W' q c (hbF cf) body ib)
    (hh : HsN X g c cf (h₀ :: hds) ihs) : NS X g W q c (hbF cf) (.Try body (h₀ :: hds) [] [] pos) (.tryS ib ihs) :=
  .mk fun n => by
    obtain ⟨l, h1, h2⟩ := hs_ok (q := q) hh
    refine (ps_try_mix (tb := fun W' => TSv g W' q ((evN c (hbF cf) n).Ss ib)) hs hf tk (fun W' pn xe t p => hbody W' pn xe t p n) h1).of fun D σ H ⟨m, s, h, A, S⟩ => ?_
    refine ⟨m, s, h, A, R.all_mono (fun _ e => e) (fun k fs s' h' e m' H' z d l hr hs' hx => ?_) (R.all_catch S)⟩
    have S1 : Sat g W m H (if k < c.ncl then handle c (hbF cf) ihs k fs s' h' else .fail) (FPost g q D) := e
    obtain ⟨hk, S1⟩ := ite_sat S1
    exact h2 k fs s' h' m' H' z d W D hk hr hs' hx (S1.mono l)
end
end Rf
set_option maxHeartbeats 4000000
namespace Rf
open PySem PySem.Spec PyProof.Rows L2 LamX RfE
section
variable {X : Cx} {pins : List (Addr × Obj)} {σ : L2.St} {H HZ : Hp} {s s1 : Shared}
/-- a(), in the def that got the lambda (entered at s) -/
theorem pe_actG {CXg : CXT} {Eg : XK} {Ng : List Str} {qg : Str} {sg : Scope} {g f c' : Addr} {cdg pm ctv : Value} {params : Arguments} {body : Expr} {scope : Scope} {k i : Nat} {a : Str} {pn : List (Addr × Obj)} {xe : Value → Shared → Prop} {W : WX} {tb : XK → TE} {p1 p2 : Pos}
    (I : Inv X pins σ H s) (L : LamS X.env.scope scope) (hf : s.heap.get? f = some (PySem.W.kla_obj "<lambda>" (X.env.qual ++ "<lambda>") params body scope (cloFrom X.env.cells scope.names []) pm c' ctv)) (hfn : H f = none) (hfr : f ∉ frs X.stack)
    (hbind : bindArgs (PySem.W.kla_fn "<lambda>" (X.env.qual ++ "<lambda>") params body scope (cloFrom X.env.cells scope.names []) pm (.ref c') ctv) ⟨[], []⟩ = pure [])
    (tk : Takes ((cxOf CXg X.prog X.w X.K X.mg X.base Ng qg sg g cdg X.A X.stack s H Eg).tr pn xe) W) (hr : Room (k + 1) (X.A.deeper (envOfC qg sg s.heap.objs.size g cdg))) (hA : X.A.guards = some [])
    (hbody : ∀ (A : Around) (outer : List Env) (s : Shared) (H : Hp) (E : XK), Room k (A.deeper (lamEnv X scope s.heap.objs.size f c')) → A.guards = some [] → PE (lamCx X A outer s H E scope f c') body (tb E))
    (hN : Ng[i]? = some a) (hv : Vis sg a) (hd : (a == ("__debug__" : Str)) = false) (hcd : (a == ("__classdict__" : Str)) = false) :
    PE ((cxOf CXg X.prog X.w X.K X.mg X.base Ng qg sg g cdg X.A X.stack s H Eg).tr pn xe) (.Call (.Name a p1) [] [] p2)
      (fun σZ HZ Q => σZ[i]? = some (some (.ref f)) ∧ HZ c' = some (CodeO c' (X.env.qual ++ "<lambda>")) ∧ ∃ E : XK, (∀ cls d H', E cls d H' → W cls d σZ H') ∧ tb E σ HZ Q) := by
  refine ⟨fun pinsZ sZ σZ HZ Q IZ h => ?_⟩
  obtain ⟨hs, hc, E, hW, ht⟩ := h
  refine wpAny_Call_Name_kw (thn ((pe_var (pos := p1) (i := i) hN hv hd hcd).run pinsZ sZ σZ HZ (fun v H1 => v = .ref f ∧ H1 = HZ) IZ ⟨.ref f, hs, rfl, rfl⟩) fun u s1 ⟨v, H1, I1, r1, q1⟩ => ?_)
  obtain ⟨ev, eH⟩ := q1
  subst ev
  rw [eH] at I1
  obtain rfl : u = Value.ref f := r1
  have of1 : s1.heap.get? f = some (PySem.W.kla_obj "<lambda>" (X.env.qual ++ "<lambda>") params body scope (cloFrom X.env.cells scope.names []) pm c' ctv) := I1.base.keep f _ hf hfn hfr (fun z => nomatch (show f ∈ ([] : List Addr) from z))
  refine PySem.W.callWith_F0 ⟨_, _, _, _, of1⟩ ?_
  have un : Un (frs X.stack) [] H HZ s.heap s1.heap := I1.base
  obtain ⟨⟨oc, vs, t, hoc, hdc, hvc⟩, _, _⟩ := I1.hok c' _ hc
  have rc : codeAny (model X.prog X.w) (X.A.deeper (envOfC qg sg s.heap.objs.size g cdg)) (.call (.ref f) ⟨[], []⟩) (L2.CR (L2.CX X.prog X.w) (envOfC qg sg s.heap.objs.size g cdg :: X.stack) X.prog X.w HZ s1 Q E) s1 := by
    refine PySem.W.kla_callFunE hr.depth of1 rfl L.co L.gen rfl ⟨c', oc, vs, t, rfl, hoc, hdc, hvc⟩ ?_
    rw [hbind]
    refine wpAny_pure (wpAny_newFunctionEnv (fun y hy => (L.own y hy).2) (fun y hy => absurd hy (by simp)) (fun h₁ hns hsb => ⟨I1.nolimit.fresh _ hsb, ?_⟩) L.kind)
    show codeAny _ _ (.expr body (lamEnv X scope s1.heap.objs.size f c')) _ _
    have kp : ∀ b o, s1.heap.get? b = some o → h₁.get? b = some o := fun b o e => hsb.extBut b o (Nat.ne_of_lt (Heap.lt_size e)) (Heap.get?_push_of_some _ e)
    have J : Inv (lamCx X (X.A.deeper (envOfC qg sg s.heap.objs.size g cdg)) (envOfC qg sg s.heap.objs.size g cdg :: X.stack) s1 HZ E scope f c') [] σ HZ { s1 with heap := h₁, toks := s1.toks + ([] : List (Str × Value)).length } :=
      lam_start2 I L I1.env0 hr.hd un hns kp
    refine PySem.W.kla_codeExpr (wpAny_mono ((hbody _ _ s1 HZ E (hr.deeper _) hA).run [] _ _ HZ Q J ht) (fun v s' hq => ?_) fun e s' hq => hq)
    obtain ⟨w', H', J', rv, q⟩ := hq
    exact ⟨w', H', J'.os, J'.bare, J'.base, J'.hok, rv, q⟩
  refine wpAny_call (codeAny_mono rc fun r s' hq => ?_)
  cases r with
  | error e => exact tk _ _ (XE.of_call I1 hW hq)
  | ok fl =>
    cases fl with
    | ret u => exact I1.after hq
    | next => exact False.elim hq
    | brk => exact False.elim hq
    | cont => exact False.elim hq
end
/-- the def that calls what it got -/
def GivesG (X : Cx) (k : Nat) (Ng : List Str) (x : Str) (sg : Scope) (g : Addr) (cdg : Value) (bg : List Stmt) (a : Str) (q : Str) (TT : (XK → Hp → VK → Prop) → Hp → VK → Prop) : Prop :=
  ∀ (f c' : Addr) (s : Shared) (H : Hp) (Q : VK) (tl : XK → Hp → VK → Prop), Room (k + 1) (X.A.deeper (envOfC x sg s.heap.objs.size g cdg)) →
    (∀ (W : WX) (pn : List (Addr × Obj)) (xe : Value → Shared → Prop) (p1 p2 : Pos), Takes ((cxOf C8.CX0 X.prog X.w X.K X.mg X.base Ng x sg g cdg X.A X.stack s H C8.E0).tr pn xe) W →
      PE ((cxOf C8.CX0 X.prog X.w X.K X.mg X.base Ng x sg g cdg X.A X.stack s H C8.E0).tr pn xe) (.Call (.Name a p1) [] [] p2) (fun σZ HZ Q => σZ[0]? = some (some (.ref f)) ∧ HZ c' = some (CodeO c' q) ∧ ∃ E : XK, (∀ cls d H', E cls d H' → W cls d σZ H') ∧ tl E HZ Q)) →
    H c' = some (CodeO c' q) → TT tl H Q →
    ∃ t, PSs (cxOf C8.CX0 X.prog X.w X.K X.mg X.base Ng x sg g cdg X.A X.stack s H C8.E0).nox bg t ∧ t { nx := fun _ H' => Q .non H', rt := Q } (L2.start Ng [.ref f]) H
section
variable {X : Cx}
/-- x(lambda: body) -/
theorem pe_lamG {T : List (Addr × Str)} {TT : (XK → Hp → VK → Prop) → Hp → VK → Prop} {x a : Str} {g c P : Addr} {k : Nat} {pg : Arguments} {bg : List Stmt} {sg : Scope} {dV kV doc pm cdv ct oc : Value} {an od : Option Addr} {osl : Array (Option Value)} {Ng : List Str}
    {params : Arguments} {body : Expr} {scope : Scope} {t : XK → TE} {p lpos pos : Pos} (hg : Gl X x) (hm : X.mg x = some (.ref g)) (hk : PySem.W.keepIn X.K (.ref g) = true)
    (lk : X.K.lookup g = some ⟨oc, od, .func (PySem.W.fnOf x x pg bg sg dV kV doc pm an cdv ct), osl⟩) (hcg : PySem.W.codeIn X.K cdv x = true) (hb : L2.Binds X.K (PySem.W.fnOf x x pg bg sg dV kV doc pm an cdv ct) [a] []) (Sg : FnScope Ng [a] sg) (hNg : Ng[0]? = some a) (hva : Vis sg a)
    (hA : X.A.guards = some [])
    (hG : GivesG X k Ng x sg g cdv bg a (X.env.qual ++ "<lambda>") TT)
    (TB : TabB X.base X.mg c P) (hcode : X.env.code = .ref c) (hmT : (P, X.env.qual ++ "<lambda>") ∈ T) (hu : ∀ p ∈ T, p.1 = P → p.2 = X.env.qual ++ "<lambda>") (hr : Room (k + 2) X.A) (L : LamS X.env.scope scope) (hdef : defaultsOf params X.env = ([], []))
    (hbind : ∀ (q : Str) (cl : List (Str × Addr)) (pm cv ctv : Value), bindArgs (PySem.W.kla_fn "<lambda>" q params body scope cl pm cv ctv) ⟨[], []⟩ = pure [])
    (hbody : ∀ (A : Around) (outer : List Env) (s : Shared) (H : Hp) (E : XK) (f c' : Addr), Room k (A.deeper (lamEnv X scope s.heap.objs.size f c')) → A.guards = some [] → PE (lamCx X A outer s H E scope f c') body (t E))
    (hdb : (x == ("__debug__" : Str)) = false) (hd : (a == ("__debug__" : Str)) = false) (hcd : (a == ("__classdict__" : Str)) = false) :
    PE X (.Call (.Name x p) [.Lambda params body scope lpos] [] pos) (tLam T TT t) := by
  refine ⟨fun pins s σ H Q I h => ?_⟩
  obtain ⟨hT, h⟩ := h
  refine wpAny_Call_Name_kw (ld_glob I hg hm ?_ hdb)
  refine PySem.W.callWith_K (h₀ := X.base) I.ok.mod.kin hk ?_ (by rfl) (by rfl)
  show wpAny _ _ (spliced ((false, eval (.Lambda params body scope lpos) X.env) :: backTo pos (starEach [] X.env))) _ _ s
  refine Calls.spliced_cons (lam_make2 I TB hcode hmT hu hT hdef (L.has I.ok) fun f c' pm' ctv H1 s' I1 eN T1 hf hfn hfr hco => ?_)
  refine Calls.spliced_nil ⟨I1.kIn, ?_⟩
  have rc : codeAny (model X.prog X.w) X.A (.call (.ref g) ⟨[.ref f], []⟩) (L2.CR C8.CX0 X.stack X.prog X.w H1 s' Q C8.E0) s' := by
    refine run_ofS (N := Ng) (ps := [a]) (us := [.ref f]) (vs := [.ref f]) lk hcg Sg hr I1.env0 (hb s' [.ref f] I1.kIn rfl) (.cons rfl .nil) rfl fun hr' => ?_
    obtain ⟨t', ht', hq'⟩ := hG f c' s' H1 Q (fun E H' Q' => t E σ H' Q') hr' (fun W pn xe p1 p2 tk => pe_actG (i := 0) I1 L hf hfn hfr (hbind _ _ _ _ _) tk hr' hA (fun A outer s H E hr2 hg2 => hbody A outer s H E f c' hr2 hg2) hNg hva hd hcd) hco (h H1 eN T1)
    exact ⟨t', ht'.nox, hq'⟩
  refine wpAny_call (codeAny_mono rc fun r s2 hq => ?_)
  cases r with
  | error e => exact (show False from hq).elim
  | ok fl =>
    cases fl with
    | ret u => exact I1.after hq
    | next => exact False.elim hq
    | brk => exact False.elim hq
    | cont => exact False.elim hq
end
end Rf
set_option maxHeartbeats 4000000
namespace Rf
open PySem PySem.Spec PyProof.Rows L2 LamX RfE
/-! ### what a call left behind is dropped -/
section
variable {g : Gs} {m m' : List Addr} {H H' : Hp}
mutual
theorem VR.cut (hm : m <+: m') : ∀ (u : Uv) (v : V), u.under m.length = true → VR g m' H u v → VR g m H u v
  | .non, _, _, r => r
  | .bl _, _, _, r => r
  | .int _, _, _, r => r
  | .str _, _, _, r => r
  | .ty _, _, _, r => r
  | .glb _, _, _, r => r
  | .alt us, v, h, r => VRa.cut hm us v (by simpa [Uv.under] using h) r
  | .tup xs, _, h, r => by
    obtain ⟨p, ys, e, a, b⟩ := r
    exact ⟨p, ys, e, a, VRs.cut hm xs ys (by simpa [Uv.under] using h) b⟩
  | .obj n, _, h, r => by
    obtain ⟨p, e, a⟩ := r
    refine ⟨p, e, ?_⟩
    have hn : n < m.length := Nat.blt_eq.mp (by simpa [Uv.under] using h)
    obtain ⟨t, rfl⟩ := hm
    rwa [List.getElem?_append_left hn] at a
theorem VRa.cut (hm : m <+: m') : ∀ (us : List Uv) (v : V), Uv.unders m.length us = true → VRa g m' H us v → VRa g m H us v
  | [], _, _, r => r
  | u :: us, v, h, r => by
    have h : (u.under m.length && Uv.unders m.length us) = true := by simpa [Uv.unders] using h
    rw [Bool.and_eq_true] at h
    exact r.elim (fun r => .inl (VR.cut hm u v h.1 r)) fun r => .inr (VRa.cut hm us v h.2 r)
theorem VRs.cut (hm : m <+: m') : ∀ (us : List Uv) (vs : List V), Uv.unders m.length us = true → VRs g m' H us vs → VRs g m H us vs
  | [], _, _, r => r
  | u :: us, _, h, r => by
    obtain ⟨y, t, e, a, b⟩ := r
    have h : (u.under m.length && Uv.unders m.length us) = true := by simpa [Uv.unders] using h
    rw [Bool.and_eq_true] at h
    exact ⟨y, t, e, VR.cut hm u y h.1 a, VRs.cut hm us t h.2 b⟩
end
theorem KRs.cut (hm : m <+: m') : ∀ (xs : List (Key × Uv)) (ys : List (Key × V)), (xs.all fun p => p.2.under m.length) = true → KRs g m' H xs ys → KRs g m H xs ys
  | [], _, _, h => h
  | (k, x) :: xs, _, q, h => by
    obtain ⟨y, r, e, a, b⟩ := h
    rw [List.all_cons, Bool.and_eq_true] at q
    exact ⟨y, r, e, VR.cut hm x y q.1 a, KRs.cut hm xs r q.2 b⟩
theorem VRo.cut (hm : m <+: m') : ∀ (xs : List (Option Uv)) (ys : List (Option V)), (xs.all fun o => match o with | none => true | some u => u.under m.length) = true → VRo g m' H xs ys → VRo g m H xs ys
  | [], _, _, h => h
  | none :: xs, _, q, h => by
    obtain ⟨r, e, b⟩ := h
    rw [List.all_cons, Bool.and_eq_true] at q
    exact ⟨r, e, VRo.cut hm xs r q.2 b⟩
  | some x :: xs, _, q, h => by
    obtain ⟨y, r, e, a, b⟩ := h
    rw [List.all_cons, Bool.and_eq_true] at q
    exact ⟨y, r, e, VR.cut hm x y q.1 a, VRo.cut hm xs r q.2 b⟩
theorem NKs.cut (hm : m <+: m') : ∀ (xs : List (Uv × Uv)) (ys : List (NestedKey × Addr × V)), (xs.all fun p => p.1.under m.length && p.2.under m.length) = true → NKs g m' H xs ys → NKs g m H xs ys
  | [], _, _, h => h
  | (k, x) :: xs, _, q, h => by
    obtain ⟨kk, b, y, r, e, n, a, a2, q2⟩ := h
    rw [List.all_cons, Bool.and_eq_true, Bool.and_eq_true] at q
    exact ⟨kk, b, y, r, e, n, VR.cut hm k _ q.1.1 a, VR.cut hm x y q.1.2 a2, NKs.cut hm xs r q.2 q2⟩
theorem pre_cut {α : Type} {l l' : List α} (h : l <+: l') {n : Nat} {a : α} (hn : n < l.length) (e : l'[n]? = some a) : l[n]? = some a := by
  obtain ⟨t, rfl⟩ := h
  rw [List.getElem?_append_left hn] at e
  exact e
theorem OR.cut (hm : m <+: m') {o : Ob} {ho : HO} (q : o.under m.length = true) (h : OR g m' H o ho) : OR g m H o ho := by
  cases o with
  | lst xs =>
    obtain ⟨ys, e, a⟩ := h
    exact ⟨ys, e, VRs.cut hm _ _ q a⟩
  | dic xs =>
    obtain ⟨ys, e, a⟩ := h
    exact ⟨ys, e, KRs.cut hm _ _ q a⟩
  | spn => exact h
  | dicL xs =>
    obtain ⟨od, ys, e, a⟩ := h
    exact ⟨od, ys, e, KRs.cut hm _ _ q a⟩
  | ins i d c st vs =>
    have q : (Nat.blt i m.length && Nat.blt d m.length && vs.all fun o => match o with | none => true | some u => u.under m.length) = true := q
    rw [Bool.and_eq_true, Bool.and_eq_true] at q
    obtain ⟨⟨hi, hd⟩, hv⟩ := q
    have hi : i < m.length := Nat.le_of_ble_eq_true hi
    have hd : d < m.length := Nat.le_of_ble_eq_true hd
    cases st with
    | true =>
      obtain ⟨x, dx, ws, a, b, e, r⟩ := h
      exact ⟨x, dx, ws, pre_cut hm hi a, pre_cut hm hd b, e, VRo.cut hm _ _ hv r⟩
    | false =>
      obtain ⟨dx, b, e⟩ := h
      exact ⟨dx, pre_cut hm hd b, e⟩
  | dxo st =>
    cases st with
    | true => exact h
    | false => exact h
  | dicN i kvs =>
    obtain ⟨a, xs, e, e2, r⟩ := h
    have q : (Nat.blt i m.length && kvs.all fun p => p.1.under m.length && p.2.under m.length) = true := q
    rw [Bool.and_eq_true] at q
    exact ⟨a, xs, pre_cut hm (Nat.le_of_ble_eq_true q.1) e, e2, NKs.cut hm _ _ q.2 r⟩
  | lam i j =>
    obtain ⟨f, F, e, e2, e3, e4, e5⟩ := h
    have q : Nat.blt i m.length = true := q
    exact ⟨f, F, pre_cut hm (Nat.le_of_ble_eq_true q) e, e2, e3, e4, fun z => e5 (hm.subset z)⟩
theorem gc_ok {h h' : List Ob} {u : Uv} (x0 : HR g m H h) (l : Le g m H m' H') (x : HR g m' H' h') :
    ∃ m2, Le g m H m2 H' ∧ HR g m2 H' (gc h.length u h') ∧ ∀ v, VR g m' H' u v → VR g m2 H' u v := by
  unfold gc
  split
  · rename_i c
    rw [Bool.and_eq_true, x0.len] at c
    rw [x0.len]
    refine ⟨m, ⟨List.prefix_refl _, l.keep, fun p a b => absurd a b, l.sq, l.fz⟩, ⟨x.tab, ?_, x0.nd, fun n o e => ?_⟩, fun v r => VR.cut l.pre u v c.1 r⟩
    · rw [List.length_take, x.len]
      have := l.pre.length_le
      omega
    · have hn : n < m.length := by
        have := (List.getElem?_eq_some_iff.mp e).1
        rw [List.length_take] at this
        omega
      have ho : o.under m.length = true := List.all_eq_true.mp c.2 o (List.mem_of_getElem? e)
      rw [List.getElem?_take_of_lt hn] at e
      obtain ⟨p, ho', a1, a2, a3⟩ := x.at_ n o e
      refine ⟨p, ho', ?_, a2, OR.cut l.pre ho a3⟩
      obtain ⟨t, ht⟩ := l.pre
      rw [← ht, List.getElem?_append_left hn] at a1
      exact a1
  · exact ⟨m', l, x, fun v r => r⟩
theorem XR.under {fs : List (Str × Uv)} {d : Option Addr} {m2 : List Addr} (hp : ∀ p, p ∈ m2 → p ∈ m') (k : ∀ f u, fs.lookup f = some u → ∀ v, VR g m' H' u v → VR g m2 H' u v) (x : XR g m' H' fs d) : XR g m2 H' fs d := by
  rcases x with x | ⟨a, l, e1, e2, e3, e4⟩
  · exact .inl x
  · exact .inr ⟨a, l, e1, e2, fun z => e3 (hp a z), e4.1, fun f u e => let ⟨v, h1, h2⟩ := e4.2 f u e; ⟨v, h1, k f u e v h2⟩⟩
theorem under_look {n : Nat} {f : Str} {u : Uv} : ∀ {fs : List (Str × Uv)}, Uv.unders n (fs.map (·.2)) = true → fs.lookup f = some u → u.under n = true
  | [], _, e => by simp at e
  | (k, w) :: fs, h, e => by
    have h : (w.under n && Uv.unders n (fs.map (·.2))) = true := by simpa [Uv.unders] using h
    rw [Bool.and_eq_true] at h
    rw [List.lookup_cons] at e
    split at e
    · cases e; exact h.1
    · exact under_look h.2 e
/-- an exception leaves -/
theorem gc_exc {h h' : List Ob} {fs : List (Str × Uv)} (x0 : HR g m H h) (l : Le g m H m' H') (x : HR g m' H' h') {d : Option Addr} (e : XR g m' H' fs d) :
    ∃ m2, Le g m H m2 H' ∧ HR g m2 H' (gc h.length (.tup (fs.map (·.2))) h') ∧ XR g m2 H' fs d := by
  unfold gc
  split
  · rename_i c
    obtain ⟨m2, a1, a2, a3⟩ := gc_ok (u := .tup (fs.map (·.2))) x0 l x
    unfold gc at a2
    rw [if_pos c] at a2
    refine ⟨m, ⟨List.prefix_refl _, l.keep, fun p a b => absurd a b, l.sq, l.fz⟩, ?_, ?_⟩
    · rw [Bool.and_eq_true, x0.len] at c
      have e2 : m2.length = m.length := by
        rw [← a2.len, List.length_take, x.len, x0.len]
        have := l.pre.length_le
        omega
      have e3 : m2 = m := (List.IsPrefix.eq_of_length a1.pre e2.symm).symm
      rw [e3] at a2
      exact a2
    · rw [Bool.and_eq_true, x0.len] at c
      exact e.under (fun p hp => l.pre.subset hp) fun f u ef v r => VR.cut l.pre u v (under_look (by simpa [Uv.under] using c.1) ef) r
  · exact ⟨m', l, x, e⟩
theorem close_ok {E : XK} {h : List Ob} {Q : VK} {q : Iv g} (x0 : HR g m H h) : ∀ {r : R (Fl × List Ob)}, Sat g (fun C d _ H' => E C d H') m H (r.close h.length) (VPost g Q) → Sat g (fun C d _ H' => E C d H') m H r (FPost g q { nx := fun _ H' => Q .non H', rt := Q })
  | .ok (.rt u, h'), S => fun m' H' l hr v rv => by
    obtain ⟨m2, a1, a2, a3⟩ := gc_ok (u := u) x0 l hr
    exact S m2 H' a1 a2 v (a3 v rv)
  | .ok (.nx s, h'), S => fun m' H' l hr σ' A => by
    obtain ⟨m2, a1, a2, a3⟩ := gc_ok (u := .non) x0 l hr
    exact S m2 H' a1 a2 .non rfl
  | .ok (.bk s, h'), S => S.no.elim
  | .ok (.ct s, h'), S => S.no.elim
  | .exc c fs s h', S => fun m' H' z d l hr _ e => by
    obtain ⟨m2, a1, a2, a3⟩ := gc_exc x0 l hr e
    exact S m2 H' [] d a1 a2 ⟨rfl, fun i u e => by simp at e⟩ a3
  | .draw k f, S => fun i hi => close_ok (r := f i) x0 (S i hi)
  | .fail, S => S.no.elim
theorem start_ok {N : List Str} {us : List Uv} {vs : List V} {ns : Nat} (hN : N.length = ns) (r : VRs g m H us vs) : SR g m H (start' ns us) (L2.start N vs) := by
  subst hN
  unfold start' L2.start
  refine ⟨by simp [r.length], fun i u e => ?_⟩
  by_cases hi : i < us.length
  · rw [List.getElem?_append_left (by simpa using hi), List.getElem?_map] at e
    cases e1 : us[i]? with
    | none => rw [e1] at e; cases e
    | some w =>
      rw [e1] at e
      cases e
      obtain ⟨v, h1, h2⟩ := r.get e1
      exact ⟨v, by rw [List.getElem?_append_left (by simpa [← r.length] using hi), List.getElem?_map, h1] <;> rfl, h2⟩
  · rw [List.getElem?_append_right (by simpa using Nat.le_of_not_lt hi), List.getElem?_replicate] at e
    split at e <;> cases e
end
/-! ### a body keeps its promise -/
theorem fn_ofG {CX : CXT} {P : Program} {w : World} {K : PySem.W.Frag} {mg : Str → Option Value} {base : Heap} {k : Nat} {f : Addr} {name qual : Str} {params : Arguments} {body : List Stmt} {scope : Scope} {dV kV doc pm cdv ct oc : Value} {an od : Option Addr}
    {osl : Array (Option Value)} {N ps : List Str} {sp : Sp} (lk : K.lookup f = some ⟨oc, od, .func (PySem.W.fnOf name qual params body scope dV kV doc pm an cdv ct), osl⟩) (hcd : PySem.W.codeIn K cdv qual = true) (S : FnScope N ps scope)
    (len : ∀ vs H Q E, sp vs H Q E → vs.length = ps.length)
    (hbody : ∀ (A : Around) (outer : List Env) (s : Shared) (H : Hp) (vs : List V) (Q : VK) (E : XK), A.guards = some [] → Room k (A.deeper (envOfC qual scope s.heap.objs.size f cdv)) → sp vs H Q E →
      ∃ t, PSs (cxOf CX P w K mg base N qual scope f cdv A outer s H E) body t ∧ t { nx := fun _ H' => Q .non H', rt := Q } (L2.start N vs) H) :
    FnG P w K mg base CX (k + 1) f (PySem.W.fnOf name qual params body scope dV kV doc pm an cdv ct) ps sp := by
  refine ⟨len, fun A outer s H args us vs Q E hA hr e0 hb r hsp => ?_⟩
  have hl := len _ _ _ _ hsp
  have KX : K.In s.heap := e0.mod.kin.keeps fun b o e => (e0.bs b o e).1
  have lim : s.heap.NoLimit := e0.mod.nolimit.keeps fun b o e => (e0.bs b o e).1
  have hkind : ∀ y ∈ ps.zip us, scope.names.lookup y.1 = some .local ∨ (scope.names.lookup y.1 = some .cell ∧ ((cellsFrom (s.heap.objs.size + 1) scope.names []).lookup y.1).isSome = true) := fun ⟨n, v⟩ hy => by
    rcases S.par n (List.of_mem_zip hy).1 with q | q
    · exact .inl q
    · exact .inr ⟨q, PySem.W.cellsFrom_some _ _ _ (.inl q)⟩
  refine codeAny_call_function hr.depth (KX _ _ lk) rfl S.co S.gen rfl (PySem.W.codeRec_of KX hcd) (hb _ _ _ _ ?_)
  refine wpAny_newFunctionEnv_cells S.kind hkind fun env he s1 x => ?_
  subst he
  refine ⟨lim.keeps x.toInCall.keep, codeAny_func ?_⟩
  obtain ⟨t, ht, hq⟩ := hbody A outer s H vs Q E hA (hr.deeper _) hsp
  have I : Inv (cxOf CX P w K mg base N qual scope f cdv A outer s H E) [] (L2.start N vs) H s1 := inv_start S hr.hd e0 hl r x
  refine wpAny_mono (ht.run [] s1 (L2.start N vs) H _ I hq) (fun fl s' hs => ?_) fun e s' hs => hs
  have fin : ∀ {σ' : L2.St} {H' : Hp} {v : V} {u : Value}, Inv (cxOf CX P w K mg base N qual scope f cdv A outer s H E) [] σ' H' s' → RelV v u → Q v H' → CE outer P w H s Q u s' :=
    fun {σ' H' v u} J rv q => ⟨v, H', J.os, J.bare, J.base, J.hok, rv, q⟩
  cases fl with
  | ret u =>
    obtain ⟨v, σ', H', J, rv, q⟩ := hs
    exact fin J rv q
  | next =>
    obtain ⟨σ', H', J, q⟩ := hs
    exact fin (v := V.non) (u := Value.none) J rfl q
  | brk =>
    obtain ⟨_, _, _, q⟩ := hs
    exact False.elim q
  | cont =>
    obtain ⟨_, _, _, q⟩ := hs
    exact False.elim q
def spR (pr : Pr) (g : Gs) (k np ns : Nat) (ib : List IS) : Sp := fun vs H Q E => ∃ m h us, HR g m H h ∧ VRs g m H us vs ∧ Sat g (fun C d _ H' => E C d H') m H (runB (pr.cf (callF pr k) (thunkF pr (callF pr k)) noAct) np ns ib us h) (VPost g Q)
/-- a def of the program whose body is known as data -/
theorem fnR_of {pr : Pr} {g : Gs} {i np ns : Nat} {ib : List IS} {P : Program} {w : World} {K : PySem.W.Frag} {mg : Str → Option Value} {base : Heap} {k r : Nat} {name qual : Str} {params : Arguments} {body : List Stmt} {scope : Scope} {dV kV doc pm cdv ct oc : Value} {an od : Option Addr}
    {osl : Array (Option Value)} {N ps : List Str} (lk : K.lookup (g.ad i) = some ⟨oc, od, .func (PySem.W.fnOf name qual params body scope dV kV doc pm an cdv ct), osl⟩) (hcd : PySem.W.codeIn K cdv qual = true) (S : FnScope N ps scope)
    (hN : N.length = ns) (hp : ps.length = np)
    (hbody : ∀ (A : Around) (outer : List Env) (s : Shared) (H : Hp) (E : XK), A.guards = some [] → Room r (A.deeper (envOfC qual scope s.heap.objs.size (g.ad i) cdv)) →
      NSs (cxOf (L2.CX P w) P w K mg base N qual scope (g.ad i) cdv A outer s H E) g (fun C d _ H' => E C d H') (Iv.no g) (pr.cf (callF pr k) (thunkF pr (callF pr k)) noAct []) (hbF (pr.cf (callF pr k) (thunkF pr (callF pr k)) noAct)) body ib) :
    FnG P w K mg base (L2.CX P w) (r + 1) (g.ad i) (PySem.W.fnOf name qual params body scope dV kV doc pm an cdv ct) ps (spR pr g k np ns ib) := by
  refine fn_ofG lk hcd S (fun vs H Q E ⟨m, h, us, hr, rv, s⟩ => ?_) fun A outer s H vs Q E hA hr ⟨m, h, us, hrr, rv, sat⟩ => ?_
  · unfold runB at s
    obtain ⟨c, _⟩ := ite_sat s
    rw [← rv.length, c, hp]
  · unfold runB at sat
    obtain ⟨c, sat⟩ := ite_sat sat
    exact ⟨_, hbody A outer s H E hA hr big, m, start' ns us, h, ⟨start_ok hN rv, hrr, ⟨fun p hp => (nomatch hp), trivial⟩⟩, close_ok hrr sat⟩
/-! ### a thunk -/
theorem le_ext {g : Gs} {m : List Addr} {H H1 : Hp} {h : List Ob} (x : HR g m H h) (e : ExtN H H1) (t : Tabs g.T H1) : Le g m H m H1 ∧ HR g m H1 h := by
  have l : Le g m H m H1 := by
    refine ⟨List.prefix_refl _, fun p o e1 _ nt => e p o e1 nt, fun p a b => absurd a b, fun p ys s => ?_, fun p o u s => e _ _ s (fun _ z => by cases z)⟩
    rcases s with (s | ⟨u, s⟩) | s
    · exact .inl (.inl (e _ _ s (fun _ z => by cases z)))
    · exact .inl (.inr ⟨u, e _ _ s (fun _ z => by cases z)⟩)
    · exact .inr s
  refine ⟨l, t, x.len, x.nd, fun n u eu => ?_⟩
  obtain ⟨q, ho, a, b, c⟩ := x.at_ n u eu
  exact ⟨q, ho, a, e _ _ b (fun ps z => c.notab.1 ps z), c.mono l⟩
theorem HR.nocode {g : Gs} {m : List Addr} {H : Hp} {h : List Ob} (x : HR g m H h) {c : Addr} {q : Str} (e : H c = some (CodeO c q)) : c ∉ m := fun hm => by
  obtain ⟨_, _, _, _, _, b, r⟩ := x.there hm
  rw [e] at b
  cases b
  exact r.notab.2 _ _ rfl
/-- what the def that calls its thunk knows -/
def qAct (g : Gs) (f c : Addr) (q : Str) (m0 : List Addr) (H0 : Hp) : Iv g := ⟨[(0, f)], fun m H => H c = some (CodeO c q) ∧ c ∉ m ∧ Le g m0 H0 m H, fun m H m' H' l ⟨a, b, e⟩ => ⟨(l.stay a b codeO_ne).1, (l.stay a b codeO_ne).2, e.trans l⟩⟩
theorem n_act {Y : Cx} {g : Gs} {W : WX} {c : Cf} {hb : Hbt} {f c' : Addr} {q : Str} {m0 : List Addr} {H0 : Hp} {a : Str} {p1 p2 : Pos} {tl : XK → Hp → VK → Prop}
    (hY : PE Y (.Call (.Name a p1) [] [] p2) (fun σZ HZ Q => σZ[0]? = some (some (.ref f)) ∧ HZ c' = some (CodeO c' q) ∧ ∃ E : XK, (∀ cls d H', E cls d H' → W cls d σZ H') ∧ tl E HZ Q))
    (ht : ∀ E m' H' h' Q', Le g m0 H0 m' H' → HR g m' H' h' → Sat g (fun C d _ H => E C d H) m' H' (c.act h') (VPost g Q') → tl E H' Q') : NE Y g W (qAct g f c' q m0 H0) c hb (.Call (.Name a p1) [] [] p2) .act :=
  .mk fun n => hY.of fun σ H Q ⟨m, s, h, A, S⟩ =>
    ⟨A.cu.1 (0, f) List.mem_cons_self, A.cu.2.1, fun C d H' => W C d σ H', fun _ _ _ h => h, ht _ m H h Q A.cu.2.2.2 A.hr (Sat.here S A.sr)⟩
def TTk (pr : Pr) (g : Gs) (k fi : Nat) : (XK → Hp → VK → Prop) → Hp → VK → Prop := fun tl H Q => ∃ (m : List Addr) (h : List Ob) (ac : List Ob → R (Uv × List Ob)), HR g m H h ∧
  (∀ E m' H' h' Q', Le g m H m' H' → HR g m' H' h' → Sat g (fun C d _ H => E C d H) m' H' (ac h') (VPost g Q') → tl E H' Q') ∧ ∃ W, Sat g W m H (thunkF pr (callF pr k) fi ac h) (VPost g Q)
theorem gives_of {X : Cx} {pr : Pr} {g : Gs} {k r fi ns : Nat} {ib : List IS} {Ng : List Str} {x a : Str} {sg : Scope} {gA : Addr} {cdg : Value} {bg : List Stmt} {qq : Str} (hd : pr.defs[fi]? = some (.code 1 ns ib)) (hN : Ng.length = ns)
    (hbody : ∀ (f c' : Addr) (s : Shared) (H : Hp) (m0 : List Addr) (H0 : Hp) (ac : List Ob → R (Uv × List Ob)), Room (r + 1) (X.A.deeper (envOfC x sg s.heap.objs.size gA cdg)) →
      (∀ (W : WX) (pn : List (Addr × Obj)) (xe : Value → Shared → Prop) (p1 p2 : Pos), Takes ((cxOf C8.CX0 X.prog X.w X.K X.mg X.base Ng x sg gA cdg X.A X.stack s H C8.E0).tr pn xe) W →
        NE ((cxOf C8.CX0 X.prog X.w X.K X.mg X.base Ng x sg gA cdg X.A X.stack s H C8.E0).tr pn xe) g W (qAct g f c' qq m0 H0) (pr.cf (callF pr k) noThunk ac []) (hbF (pr.cf (callF pr k) noThunk ac)) (.Call (.Name a p1) [] [] p2) .act) →
      NSs (cxOf C8.CX0 X.prog X.w X.K X.mg X.base Ng x sg gA cdg X.A X.stack s H C8.E0).nox g W0 (qAct g f c' qq m0 H0) (pr.cf (callF pr k) noThunk ac []) (hbF (pr.cf (callF pr k) noThunk ac)) bg ib) :
    GivesG X r Ng x sg gA cdg bg a qq (TTk pr g k fi) := by
  intro f c' s H Q tl hr hact hco ⟨m, h, ac, hrr, htl, W, S⟩
  have Hb := hbody f c' s H m H ac hr fun W pn xe p1 p2 tk => n_act (hact W pn xe p1 p2 tk) htl
  refine ⟨_, Hb big, m, none :: List.replicate (ns - 1) none, h, ⟨⟨?_, fun i u e => ?_⟩, hrr, ⟨fun p hp => ?_, hco, hrr.nocode hco, Le.refl _ _ _⟩⟩, ?_⟩
  · unfold L2.start
    rw [hN]
    simp
  · cases i with
    | zero => simp at e
    | succ i =>
      rw [List.getElem?_cons_succ, List.getElem?_replicate] at e
      split at e <;> cases e
  · rw [show p = (0, f) from by simpa [qAct] using hp]
    rfl
  · simp only [thunkF, hd] at S
    exact close_ok (E := fun _ _ _ => False) hrr (Sat.calm S)
theorem n_thk {X : Cx} {g : Gs} {W : WX} {q : Iv g} {c : Cf} {hb : Hbt} {pr : Pr} {k fi : Nat} {i : IE} {e : Expr}
    (hc : c.thunk = thunkF pr (callF pr k))
    (hl : ∀ n, PE X e (tLam g.T (TTk pr g k fi) fun E => TEv g (fun C d _ H => E C d H) q ((evN c hb n).E i))) : NE X g W q c hb e (.thk fi i) :=
  .mk fun n => (hl n).of fun σ H Q ⟨m, s, h, A, S⟩ => ⟨A.hr.tab, fun H1 eN T1 => by
    obtain ⟨l, hr1⟩ := le_ext A.hr eN T1
    have S : Sat g W m H (c.thunk fi (fun h => (evN c hb n).E i s h) h) (VPost g Q) := S
    rw [hc] at S
    exact ⟨m, h, fun h => (evN c hb n).E i s h, hr1, fun E m' H' h' Q' l' hr' S' => ⟨m', s, h', (A.to l hr1).to l' hr', S'⟩, W, S.mono l⟩⟩
end Rf
set_option maxHeartbeats 1000000
namespace Rf
open PySem PySem.Spec PyProof.Rows L2 RfE
/-! ### more nodes: choices kept open, x[::-1], {k: v}, dicts gone over, what is not translated -/
section
variable {X : Cx} {g : Gs} {W : WX} {q : Iv g} {c : Cf} {hb : Hbt} {a b d e : Expr} {i j k : IE} {pos : Pos}
theorem n_varL {ix : Nat} {x : Str} (hN : X.N[ix]? = some x) (hv : Vis X.env.scope x) (hd : (x == ("__debug__" : Str)) = false) (hcd : (x == ("__classdict__" : Str)) = false) : NE X g W q c hb (.Name x pos) (.varL ix) :=
  .mk fun n => (pe_var hN hv hd hcd).of fun σ H Q ⟨m, s, h, A, S⟩ => by
    simp only [stepE] at S
    split at S
    · rename_i u e
      obtain ⟨v, e1, rv⟩ := A.sr.2 _ _ e
      exact ⟨v, e1, S.ok0 A.hr v rv⟩
    · exact S.no.elim
theorem n_rev {y : Nat} {p1 p2 p3 : Pos} (hK : X.K = g.K) (ha : NE X g W q c hb a i) : NE X g W q c hb (.Subscript a (.Slice none none (some (.UnaryOp .USub (.Constant (.int 1) y p1) p2)) p3) pos) (.rev i) :=
  .mk fun n => (pe_revL (ha n)).of fun σ H Q ⟨m, s, h, A, S⟩ => ⟨m, s, h, A, (Sat.bind S).imp fun u h1 m1 H1 l1 hr1 S1 v rv => by
    split at S1
    · rename_i nn e
      rw [show u = .obj nn from e] at rv
      split at S1
      · rename_i xs e0
        obtain ⟨p, ys, rfl, hn, k1, hx⟩ := hr1.getL rv e0
        exact ⟨p, ys, rfl, SqL.of k1, fun p' hp' => alloc_ok hr1 S1 hp' ⟨_, rfl, hx.reverse⟩⟩
      · exact S1.no.elim
    · exact S1.no.elim⟩
/-- {k: v}, the key carried by value or nested -/
def tDisp1 (P : Program) (w : World) (K : PySem.W.Frag) (tk tv : TE) : TE := fun σ H Q => ∀ p, H p = none → tk σ (upd H p (.dK [])) fun x H1 => tv σ H1 fun y H2 => ∃ H3, DPutG P w K H2 p x y H3 ∧ Q (.ref p) H3
theorem pe_disp1 {tk tv : TE} (hu : X.A.units + 9 < cLine) (hk : PE X a tk) (hv : PE X b tv) : PE X (.Dict [some a] [b] pos) (tDisp1 X.prog X.w X.K tk tv) := by
  refine ⟨fun pins s σ H Q I q => ?_⟩
  have hn := I.hok.fresh (Nat.le_refl s.heap.objs.size)
  have I1 := I.laid (a := s.heap.objs.size) (o := .dK []) (h' := s.heap.push { cls := .type "dict", data := .dict #[] }) (t' := s.toks) (fun _ _ q => Heap.get?_push_of_some _ q) (Nat.le_refl _) (dk_empty s.heap I.big)
  have hp := pps_cons hk hv (pps_nil (X := X) (pos := pos))
  have hln := pairTrees_length [some a] [b] X.env pos rfl rfl
  have hln : (pairTrees [some a] [b] X.env pos).length = 1 := hln
  rw [arm_eval_Dict, zip_pairTrees [some a] [b] X.env pos rfl rfl, dictDisplay_pairs _ (by intro e; rw [e] at hln; cases hln) (by rw [hln]; decide)]
  refine wpAny_bind (wpAny_standAt (wpAny_bind ?_))
  unfold subDict
  refine wpAny_bind (wpAny_alloc ?_)
  refine wpAny_bind (wpAny_holding ?_)
  rw [if_pos (by rw [hln]; decide)]
  refine wpAny_bind (thn (hp.run pins _ σ _ (fun ps H2 => match ps with | [(x, y)] => ∃ H3, DPutG X.prog X.w X.K H2 s.heap.objs.size x y H3 ∧ Q (.ref s.heap.objs.size) H3 | _ => False) I1 (q _ hn)) fun vs s1 ⟨ps, H2, I2, rel, z⟩ => ?_)
  split at z
  case h_2 => exact z.elim
  rename_i x y
  obtain ⟨H3, dp, q2⟩ := z
  cases rel with
  | @cons _ bb _ _ r1 t =>
  cases t
  obtain ⟨u, r⟩ := bb
  refine wpAny_holding ?_
  rw [List.forIn_cons]
  refine wpAny_bind (wpAny_bind (wpAny_bind (dictSetG hu I2 dp r1.1 r1.2 fun s3 I3 => wpAny_pure ?_)))
  show wpAny _ _ (forIn ([] : List (Value × Value)) PUnit.unit _) _ _ _
  rw [List.forIn_nil]
  exact wpAny_pure (wpAny_pure (wpAny_pure (wpAny_pure ⟨.ref s.heap.objs.size, H3, I3, rfl, q2⟩)))
theorem n_dlit (hK : X.K = g.K) (hP : X.prog = g.P) (hw : X.w = g.w) (hu : X.A.units + 9 < cLine) (ha : NE X g W q c hb a i) (hb' : NE X g W q c hb b j) : NE X g W q c hb (.Dict [some a] [b] pos) (.dlit i j) :=
  .mk fun n => (pe_disp1 hu (ha n) (hb' n)).of fun σ H Q ⟨m, s, h, A, S⟩ => fun p hp => by
    have L := Le.alloc (o := .dK []) A.hr hp
    have hr2 := A.hr.alloc hp (u := .dic []) (o := .dK []) ⟨[], rfl, rfl⟩
    have hd : (m ++ [p])[h.length]? = some p := by rw [A.hr.len, List.getElem?_append_right (Nat.le_refl _), Nat.sub_self] <;> rfl
    refine ⟨m ++ [p], s, h ++ [.dic []], A.to L hr2, ((Sat.bind S).mono L).imp fun u h1 m1 H1 l1 hr1 S1 v rv => ⟨m1, s, h1, (A.to L hr2).to l1 hr1, (Sat.bind S1).imp fun u2 h2 m2 H2 l2 hr3 S2 v2 rv2 => ?_⟩⟩
    have hd2 : m2[h.length]? = some p := pre_get l2.pre (pre_get l1.pre hd)
    have ro : VR g m2 H2 (.obj h.length) (.ref p) := ⟨p, rfl, hd2⟩
    have rv := VR.mono l2 _ _ rv
    have fin : ∀ {H' : Hp} {h' : List Ob}, Le g m2 H2 m2 H' → HR g m2 H' h' → Sat g W m2 H2 (.ok (.obj h.length, h')) (VPost g Q) → Q (.ref p) H' := fun L3 hr4 z => z m2 _ L3 hr4 _ ⟨p, rfl, hd2⟩
    split at S2
    · rename_i e0
      split at S2
      · rename_i key ek
        have e : putD h.length u u2 h2 = some (h2.set h.length (.dic [(key, u2)])) := by
          unfold putD
          simp only [e0, ek]
          rfl
        obtain ⟨p', H', ep, hn, L3, hr4, q4⟩ := putD_ok hr3 e ro rv rv2
        cases ep
        exact ⟨H', by rw [hK, hP, hw]; exact q4, fin L3 hr4 S2⟩
      · rename_i ek
        split at S2
        · rename_i ct
          have e : putD h.length u u2 h2 = some (h2.set h.length (.dicN h.length [(u, u2)])) := by
            unfold putD
            simp only [e0, ek, ct, if_true]
          obtain ⟨p', H', ep, hn, L3, hr4, q4⟩ := putD_ok hr3 e ro rv rv2
          cases ep
          exact ⟨H', by rw [hK, hP, hw]; exact q4, fin L3 hr4 S2⟩
        · exact S2.no.elim
    · exact S2.no.elim
/-- a dict that a loop is to go over is locked where it was not -/
def tFrz (t : TE) : TE := fun σ H Q => t σ H fun x H1 => Q x H1 ∨ ∃ d u, x = .ref d ∧ H1 d = some u ∧ Mut (some u) ∧ ∀ od, Q x (upd H1 d (.frz od u))
theorem pe_frz {t : TE} (h : PE X a t) : PE X a (tFrz t) := by
  refine ⟨fun pins s σ H Q I hw => ?_⟩
  refine thn (h.run pins s σ H _ I hw) fun v s1 ⟨x, H1, I1, r, q⟩ => ?_
  rcases q with q | ⟨d, u, ex, hd, mu, q⟩
  · exact ⟨x, H1, I1, r, q⟩
  · obtain ⟨od, I2⟩ := I1.lock hd mu
    exact ⟨x, _, I2, r, q od⟩
theorem lockU_ok {f : Nat → Rn} {u : Uv} {v : V} {m : List Addr} {H : Hp} {h : List Ob} {P : Rn → List Ob → List Addr → Hp → Prop} (hr : HR g m H h) (rv : VR g m H u v) (S : Sat g W m H (lockU u h f) P) :
    ∃ (n : Nat) (d : Addr), u = .obj n ∧ v = .ref d ∧ ((∃ od l h', m[n]? = some d ∧ H d = some (.frz od (.dK l)) ∧ P (f n) h' m H) ∨ ∃ l, H d = some (.dK l) ∧ ∀ od, ∃ h', m[n]? = some d ∧ P (f n) h' m (upd H d (.frz od (.dK l)))) := by
  unfold lockU at S
  split at S
  · rename_i n
    split at S
    · rename_i kvs e0
      obtain ⟨p, od, l, rfl, hn, k1, hx⟩ := hr.getK rv e0
      exact ⟨n, p, rfl, rfl, .inl ⟨od, l, h, hn, k1, S.ok0 hr⟩⟩
    · rename_i kvs e0
      obtain ⟨p, l, rfl, hn, k1, hx⟩ := hr.getD rv e0
      refine ⟨n, p, rfl, rfl, .inr ⟨l, k1, fun od => ?_⟩⟩
      obtain ⟨L, hr2⟩ := hr.lock hn e0 k1 hx od
      exact ⟨_, hn, S m _ L hr2⟩
    · exact S.no.elim
  · exact S.no.elim
theorem i_keys {tg : Expr} (ha : NE X g W q c hb a i) : NI X g W q c hb tg a (.keys i) :=
  .mk fun n => (pi_keys (pe_frz (ha n))).of fun σ H Q ⟨m, s, h, A, S⟩ => ⟨m, s, h, A, (Sat.bind S).imp fun u h1 m1 H1 l1 hr1 S1 v rv => by
    obtain ⟨nn, d, rfl, rfl, q⟩ := lockU_ok hr1 rv S1
    rcases q with ⟨od, l, h', hn, k1, q⟩ | ⟨l, k1, q⟩
    · exact .inl ⟨d, od, rfl, .inl ⟨l, k1, q _ ⟨d, od, l, hn, k1, rfl⟩⟩⟩
    · refine .inr ⟨d, _, rfl, k1, trivial, fun od => ?_⟩
      obtain ⟨h', hn, q⟩ := q od
      exact ⟨d, od, rfl, .inl ⟨l, upd_same, q _ ⟨d, od, l, hn, upd_same, rfl⟩⟩⟩⟩
theorem i_itms {ts : List Expr} {y : Nat} {tp apos : Pos} (hbase : attributeBase a "items" X.env (eval a X.env) = eval a X.env) (hline : (apos.endLine == pos.line) = true) (ha : NE X g W q c hb a i) : NI X g W q c hb (.Tuple ts y tp) (.Call (.Attribute a "items" apos) [] [] pos) (.itms i) :=
  .mk fun n => (pi_items (pe_frz (ha n)) hbase hline).of fun σ H Q ⟨m, s, h, A, S⟩ => ⟨m, s, h, A, (Sat.bind S).imp fun u h1 m1 H1 l1 hr1 S1 v rv => by
    obtain ⟨nn, d, rfl, rfl, q⟩ := lockU_ok hr1 rv S1
    rcases q with ⟨od, l, h', hn, k1, q⟩ | ⟨l, k1, q⟩
    · exact .inl ⟨d, od, l, rfl, k1, q _ ⟨d, od, l, hn, k1, rfl⟩⟩
    · refine .inr ⟨d, _, rfl, k1, trivial, fun od => ?_⟩
      obtain ⟨h', hn, q⟩ := q od
      exact ⟨d, od, l, rfl, upd_same, q _ ⟨d, od, l, hn, upd_same, rfl⟩⟩⟩
theorem i_rng3 {tg : Expr} {x : Str} {p : Pos} (hx : x = "range") (hg : Gl X x) (hm : X.mg x = none) (hp : plainE a = true) (hp2 : plainE b = true) (hp3 : plainE d = true) (ha : NE X g W q c hb a i) (hb' : NE X g W q c hb b j) (hd : NE X g W q c hb d k) : NI X g W q c hb tg (.Call (.Name x p) [a, b, d] [] pos) (.rng3 i j k) :=
  .mk fun n => by
    subst hx
    refine (pi_range3 hg hm (pa_cons (ha n) (pa_cons (hb' n) (pa_cons (hd n) pa_nil (star_of hp3 _ _)) (star_of hp2 _ _)) (star_of hp _ _)) (star_of hp _ _) (any_stars (by rw [List.all_cons, hp2, List.all_cons, hp3] <;> rfl))).of fun σ H Q ⟨m, s, h, A, S⟩ =>
      ⟨m, s, h, A, (Sat.bind S).imp fun u h1 m1 H1 l1 hr1 S1 v rv => ⟨m1, s, h1, A.to l1 hr1, (Sat.bind S1).imp fun u2 h2 m2 H2 l2 hr2 S2 v2 rv2 => ⟨m2, s, h2, (A.to l1 hr1).to l2 hr2, (Sat.bind S2).imp fun u3 h3 m3 H3 l3 hr3 S3 v3 rv3 => ?_⟩⟩⟩
    have rv := VR.mono (l2.trans l3) _ _ rv
    have rv2 := VR.mono l3 _ _ rv2
    split at S3
    · rename_i z z2 e e2 e3
      rw [show u = .int z from e] at rv
      rw [show u2 = .int z2 from e2] at rv2
      rw [show u3 = .int (-1) from e3] at rv3
      cases rv
      cases rv2
      cases rv3
      obtain ⟨ct, S3⟩ := ite_satb S3
      simp only [Bool.and_eq_true, decide_eq_true_eq] at ct
      exact ⟨z, z2, -1, _, rfl, RgC.neg ct.1.1.1 ct.1.1.2 ct.1.2 ct.2, S3.ok0 hr3 _ rfl⟩
    · exact S3.no.elim
/-! statements -/
theorem s_bad {st : Stmt} : NS X g W q c hb st .bad := .mk fun n => ⟨fun _ _ _ _ _ _ ⟨_, _, _, _, s⟩ => s.no.elim⟩
theorem At.fix {m : List Addr} {s : Env'} {h : List Ob} {z : L2.St} {H : Hp} {ix : Nat} {us : List Uv} (A : At g q m s h z H) (e : s[ix]? = some (some (.alt us))) : ∃ (jx : Nat) (u : Uv), us[jx]? = some u ∧ jx < us.length ∧ At g q m (s.set ix (some u)) h z H := by
  obtain ⟨v, e1, rv⟩ := A.sr.2 _ _ e
  obtain ⟨jx, u, e2, r⟩ := VRa.get (show VRa g m H us v from rv)
  refine ⟨jx, u, e2, (List.getElem?_eq_some_iff.mp e2).1, ⟨by rw [List.length_set]; exact A.sr.1, fun k w ew => ?_⟩, A.hr, A.cu⟩
  by_cases hk : ix = k
  · subst hk
    rw [List.getElem?_set_self (List.getElem?_eq_some_iff.mp e).1] at ew
    cases ew
    exact ⟨v, e1, r⟩
  · rw [List.getElem?_set_ne hk] at ew
    exact A.sr.2 k w ew
theorem pin_ok {D : Ends} {f : Env' → List Ob → R (Fl × List Ob)} : ∀ {is : List Nat} {m : List Addr} {s : Env'} {h : List Ob} {z : L2.St} {H : Hp}, At g q m s h z H → Sat g W m H (pinR (fun s => f s h) is s) (FPost g q D) → ∃ s', At g q m s' h z H ∧ Sat g W m H (f s' h) (FPost g q D)
  | [], _, s, _, _, _, A, S => ⟨s, A, S⟩
  | ix :: is, m, s, h, z, H, A, S => by
    unfold pinR at S
    split at S
    · rename_i us e
      obtain ⟨jx, u, e2, hj, A2⟩ := A.fix e
      have S2 := S jx hj
      simp only [e2] at S2
      exact pin_ok A2 S2
    · exact pin_ok A S
theorem s_pin {st : Stmt} {is : List Nat} {i : IS} (h : NS X g W q c hb st i) : NS X g W q c hb st (.pin is i) :=
  .mk fun n => (h n).of fun D σ H ⟨m, s, hh, A, S⟩ => by
    obtain ⟨s', A', S'⟩ := pin_ok (f := fun s h => (evN c hb n).S i s h) A S
    exact ⟨m, s', hh, A', S'⟩
theorem unlk_ok {D : Ends} {m : List Addr} {H : Hp} {nn : Nat} {p : Addr} {l : List (Key × V)} {od : Obj} {kvs : List (Key × Uv)} (l0 : Le g m H m (upd H p (.frz od (.dK l)))) (hm : m[nn]? = some p) (hp : H p = some (.dK l)) (cu : q.J m H) :
    ∀ {r : R (Fl × List Ob)}, Sat g W m H (unlk nn r) (FPost g q D) → Sat g W m (upd H p (.frz od (.dK l))) r
      (FPost g q ⟨fun σ' H' => H' p = some (.frz od (.dK l)) ∧ D.nx σ' (upd H' p (.dK l)), fun v H' => H' p = some (.frz od (.dK l)) ∧ D.rt v (upd H' p (.dK l)), fun σ' H' => H' p = some (.frz od (.dK l)) ∧ D.bk σ' (upd H' p (.dK l)), fun σ' H' => H' p = some (.frz od (.dK l)) ∧ D.ct σ' (upd H' p (.dK l))⟩)
  | .ok (f, h'), S => fun m' H' l1 hr => by
    unfold unlk at S
    split at S
    · rename_i kv e0
      obtain ⟨L, hr2, hz⟩ := HR.unlock l1 hm hp hr e0
      have q1 := S m' _ L hr2
      have tr : ∀ q ys, SqT g.K H' q ys → SqT g.K (upd H' p (.dK l)) q ys := fun q ys s => sq_turn hz (fun _ z => by cases z) (fun _ _ z => by cases z) s
      have at2 : ∀ {s' : Env'} {σ' : L2.St}, At g q m' s' h' σ' H' → At g q m' s' (h'.set nn (.dic kv)) σ' (upd H' p (.dK l)) := fun A => ⟨⟨A.sr.1, fun i u e => let ⟨v, a, b⟩ := A.sr.2 i u e; ⟨v, a, VR.tr (List.prefix_refl _) tr u v b⟩⟩, hr2, A.cu.1, q.mono _ _ _ _ L cu⟩
      have back : ∀ {u : Uv} {v : V}, VR g m' H' u v → VR g m' (upd H' p (.dK l)) u v := fun r => VR.tr (List.prefix_refl _) tr _ _ r
      cases f with
      | nx s' => exact fun σ' A => ⟨hz, q1 σ' (at2 A)⟩
      | bk s' => exact fun σ' A => ⟨hz, q1 σ' (at2 A)⟩
      | ct s' => exact fun σ' A => ⟨hz, q1 σ' (at2 A)⟩
      | rt u => exact fun v r => ⟨hz, q1 v (back r)⟩
    · exact S.no.elim
  | .exc c fs s h, S => (show XS g W m H c fs s h from S).mono l0
  | .draw k f, S => fun i hi => unlk_ok (kvs := kvs) l0 hm hp cu (r := f i) (S i hi)
  | .fail, S => S.no.elim
theorem s_lock {st : Stmt} {ix : Nat} {i : IS} (h : NS X g W q c hb st i) : NS X g W q c hb st (.lock ix i) :=
  .mk fun n => (ps_lock (h n)).of fun D σ H ⟨m, s, hh, A, S⟩ => by
    simp only [stepS] at S
    split at S
    · rename_i nn e
      obtain ⟨v, e1, rv⟩ := A.sr.2 _ _ e
      split at S
      · rename_i kvs e0
        obtain ⟨p, l, rfl, hn, k1, hx⟩ := A.hr.getD rv e0
        refine ⟨p, .dK l, k1, trivial, fun od => ?_⟩
        obtain ⟨L, hr2⟩ := A.hr.lock hn e0 k1 hx od
        exact ⟨m, s, _, A.to L hr2, unlk_ok (kvs := kvs) L hn k1 A.cu.2 S⟩
      · exact S.no.elim
    · exact S.no.elim
/-- name = {.. for ..} where the comprehension's frame is used -/
theorem ps_setDG {i : Nat} {y : Str} {py : Pos} {kx vx tg iter : Expr} {ifs : List Expr} {more : List Comprehension} {scope : Scope} {own : List (Str × Nat)} {pos spos : Pos} {wi : TI} {g : TG} {tt : TT} {tb : TBody} {Bw : BodyW} (hc : X.calm = true) (hN : X.N.Nodup) (hy : X.N[i]? = some y) (hyl : X.env.scope.names.lookup y = some .local)
    (hsw : swapsWith (.DictComp kx vx (⟨tg, iter, ifs, 0⟩ :: more) scope pos) (some (.Name y py)) spos.line X.env = pure true) (hi : PI X tg iter wi) (ok : BlkOk X.N X.env.scope scope own)
    (hg : InB X scope fun Y => PG Y tg g) (ht : InB X scope fun Y => PTs Y ifs tt) (hL : LoopBy X (.DictComp kx vx (⟨tg, iter, ifs, 0⟩ :: more) scope pos) tg ifs Bw) (hB : BodyBy X scope (own.map (·.2)) Bw tb) (plain : ∀ x, foldedSetIterable iter X.env x = pure x) :
    PS X (.Assign [.Name y py] (.DictComp kx vx (⟨tg, iter, ifs, 0⟩ :: more) scope pos) spos) (tAsg (tDG wi g tt tb (own.map (·.2))) (gName i)) := by
  refine ⟨fun pins s σ H D I h => ?_⟩
  rw [exec_Assign_Name_used _ _ _ _ hsw]
  refine wpAny_bind (wpAny_standAt (wpAny_bind ?_))
  show wpAny _ X.A (do let _ ← comprehension (.DictComp kx vx (⟨tg, iter, ifs, 0⟩ :: more) scope pos) scope X.env (firstIterPos (⟨tg, iter, ifs, 0⟩ :: more) pos) newDict false (eval iter X.env) (some (assign (.Name y py) X.env))) _ _ s
  have h : tDG wi g tt tb (own.map (·.2)) σ H (fun x H1 => gName i x σ H1 D.nx) := h
  refine wpAny_bind (thn (dG_core (Qf := fun _ s' => SP X pins D .next s') hc hN I hi ok hg ht hL hB plain h fun L C s' m H' I' q hn f => ?_) fun _ s' hq => wpAny_pure (wpAny_pure hq))
  show wpAny _ _ (assign (.Name y py) X.env (.ref L)) _ _ _
  refine wpAny_assign_Name (store_ok2 (v := V.ref L) I' hN hy (.inl hyl) rfl (fun s2 I2 ⟨a, sb, ha⟩ => ?_) (.inr hyl))
  obtain ⟨f0, f1, f2, f3, f4, f5⟩ := f
  have haC : C ≠ a := by
    rcases ha with z | z
    · rw [z]; exact f1
    · exact fun e => f4 y a z e.symm
  refine ⟨m, hn.sameBut sb haC, fun h3 sb3 => ?_⟩
  exact ⟨_, H', I2.turned (t' := s2.toks) (fun b o hb e => (sb3.2 b hb).trans e) f0 f1 f3 f4 f5, q⟩
theorem s_setDc {ix : Nat} {x : Str} {px : Pos} {kx tg iter : Expr} {kk : IE} {es : List Expr} {scope : Scope} {own : List (Str × Nat)} {t : IT} {it : II} {ifs : List IE} {vs : List Nat} {p2 : Pos} (hK : X.K = g.K) (hP : X.prog = g.P) (hw : X.w = g.w) (hu : X.A.units + 9 < cLine) (hc : X.calm = true) (hN : X.N.Nodup) (hx : X.N[ix]? = some x) (hl : X.env.scope.names.lookup x = some .local)
    (hsw : swapsWith (.DictComp kx a [⟨tg, iter, es, 0⟩] scope p2) (some (.Name x px)) pos.line X.env = pure true) (hpx : ∀ p ∈ q.pin, p.1 ≠ ix)
    (ok : BlkOk X.N X.env.scope scope own) (hv : vs = own.map (·.2)) (hp : ∀ p ∈ q.pin, p.1 ∉ vs) (hs : noSet iter = true)
    (hi : NI X g W q c hb tg iter it) (hg : InB X scope fun Y => NG Y g q vs tg t) (ht : InB X scope fun Y => NTs Y g W0 q c hb es ifs) (hk : InB X scope fun Y => NE Y g W0 q c hb kx kk) (he : InB X scope fun Y => NE Y g W0 q c hb a k) :
    NS X g W q c hb (.Assign [.Name x px] (.DictComp kx a [⟨tg, iter, es, 0⟩] scope p2) pos) (.asg (.nm ix) (.dc kk k t it ifs vs)) :=
  .mk fun n => by
    subst hv
    cases n with
    | zero => exact ⟨fun _ _ _ _ _ _ ⟨_, _, _, _, S⟩ => (Sat.bind S).no.elim⟩
    | succ n =>
      refine (ps_setDG hc hN hx hl hsw (hi n) ok (fun s H C cl fp => hg s H C cl fp 10) (fun s H C cl fp => some_pts (ht s H C cl fp)) loop1 (body1 hu (fun s H C cl fp => some_pe (hk s H C cl fp)) (fun s H C cl fp => some_pe (he s H C cl fp))) (plain_of hs X.env)).of fun D σ H ⟨m, s, h, A, S⟩ => ?_
      refine dc_read (Q := fun x H1 => gName ix x σ H1 D.nx) hK hP hw hp ⟨m, s, h, A, (Sat.bind S).imp fun u h1 m1 H1 l1 hr1 S1 v rv => S1.ok0 hr1 _ ((A.to l1 hr1).put rv hpx)⟩
theorem s_setDc2 {ix : Nat} {x : Str} {px : Pos} {kx tg iter tg2 iter2 : Expr} {kk : IE} {es es2 : List Expr} {scope : Scope} {own : List (Str × Nat)} {t t2 : IT} {it it2 : II} {ifs ifs2 : List IE} {vs vs2 : List Nat} {p2 : Pos} (hK : X.K = g.K) (hP : X.prog = g.P) (hw : X.w = g.w) (hu : X.A.units + 9 < cLine) (hc : X.calm = true) (hN : X.N.Nodup) (hx : X.N[ix]? = some x) (hl : X.env.scope.names.lookup x = some .local)
    (hsw : swapsWith (.DictComp kx a [⟨tg, iter, es, 0⟩, ⟨tg2, iter2, es2, 0⟩] scope p2) (some (.Name x px)) pos.line X.env = pure true) (hpx : ∀ p ∈ q.pin, p.1 ≠ ix)
    (ok : BlkOk X.N X.env.scope scope own) (hv : vs = own.map (·.2)) (hp : ∀ p ∈ q.pin, p.1 ∉ vs) (hv2 : ∀ i ∈ vs2, i ∈ vs) (hs : noSet iter = true) (hs2 : noSet iter2 = true)
    (hi : NI X g W q c hb tg iter it) (hg : InB X scope fun Y => NG Y g q vs tg t) (ht : InB X scope fun Y => NTs Y g W0 q c hb es ifs) (hi2 : InB X scope fun Y => NI Y g W0 q c hb tg2 iter2 it2) (hg2 : InB X scope fun Y => NG Y g q vs2 tg2 t2) (ht2 : InB X scope fun Y => NTs Y g W0 q c hb es2 ifs2) (hk : InB X scope fun Y => NE Y g W0 q c hb kx kk) (he : InB X scope fun Y => NE Y g W0 q c hb a k) :
    NS X g W q c hb (.Assign [.Name x px] (.DictComp kx a [⟨tg, iter, es, 0⟩, ⟨tg2, iter2, es2, 0⟩] scope p2) pos) (.asg (.nm ix) (.dc2 kk k t it ifs t2 it2 ifs2 vs vs2)) :=
  .mk fun n => by
    subst hv
    cases n with
    | zero => exact ⟨fun _ _ _ _ _ _ ⟨_, _, _, _, S⟩ => (Sat.bind S).no.elim⟩
    | succ n =>
      refine (ps_setDG hc hN hx hl hsw (hi n) ok (fun s H C cl fp => hg s H C cl fp 10) (fun s H C cl fp => some_pts (ht s H C cl fp)) (loop2 fun env x => plain_of hs2 env x)
      (body2 hc hu hv2 (fun s H C cl fp => some_pi (hi2 s H C cl fp)) (fun s H C cl fp => hg2 s H C cl fp 10) (fun s H C cl fp => some_pts (ht2 s H C cl fp)) (fun s H C cl fp => some_pe (hk s H C cl fp)) (fun s H C cl fp => some_pe (he s H C cl fp))) (plain_of hs X.env)).of fun D σ H ⟨m, s, h, A, S⟩ => ?_
      refine dc2_read (Q := fun x H1 => gName ix x σ H1 D.nx) hK hP hw hp (fun p hpp z => hp p hpp (hv2 _ z)) ⟨m, s, h, A, (Sat.bind S).imp fun u h1 m1 H1 l1 hr1 S1 v rv => S1.ok0 hr1 _ ((A.to l1 hr1).put rv hpx)⟩
end
end Rf
set_option maxHeartbeats 4000000
namespace Rf
open PySem PySem.Spec PyProof.Rows L2 RfE
/-! ### list comprehensions of two clauses -/
section
variable {X : Cx} {g : Gs} {W : WX} {q : Iv g} {c : Cf} {hb : Hbt} {a b d e : Expr} {i j k : IE} {pos : Pos}
def LcW (g : Gs) (q : Iv g) (c : Cf) (hb : Hbt) (k : IE) (t : IT) (ifs : List IE) (rn : Rn) (J : It) (n0 : Nat) (D : Addr) (s : Env') (σ : L2.St) (P : Unit → List Ob → List Addr → Hp → Prop) : Nat → Nat → Hp → Prop := fun i k' H =>
  ∃ m h, At g q m s h σ H ∧ RnR g m H rn J ∧ m[n0]? = some D ∧ Sat g W0 m H ((evN c hb k').L k t ifs rn n0 i s h) P
theorem lc_turn {t : IT} {ifs : List IE} {vs : List Nat} {σ : L2.St} {s : Env'} {rn : Rn} {J : It} {n0 : Nat} {D : Addr} {P : Unit → List Ob → List Addr → Hp → Prop} (hpv : wipeE s vs = s) {i k' : Nat} {H : Hp} (w : LcW g q c hb k t ifs rn J n0 D s (L2.wipe σ vs) P i k' H) :
    (J.stop i H ∧ ∃ m h, At g q m s h (L2.wipe σ vs) H ∧ m[n0]? = some D ∧ P () h m H) ∨ (J.go i H ∧ ∃ Nx : Hp → Prop, (∀ H', Nx H' → ∃ k2, k2 < k' ∧ LcW g q c hb k t ifs rn J n0 D s (L2.wipe σ vs) P (i + 1) k2 H') ∧ ∀ x H', J.yld i H x H' → setR g q vs (fun u s => setT 10 t u s) x (L2.wipe σ vs) H' fun σ2 H2 => L2.wipe σ2 vs = L2.wipe σ vs ∧ (∃ n, TTv g W0 q ((evN c hb n).Ts ifs) σ2 H2 fun b H3 =>
      if b = true then ∃ n, TEv g W0 q ((evN c hb n).E k) σ2 H3 fun y H4 => ∃ acc, H4 D = some (.lst acc) ∧ acc.length < sizeLine ∧ Nx (upd H4 D (.lst (acc ++ [y]))) else Nx H3)) := by
  obtain ⟨m, h, A, hJ, hd, S⟩ := w
  cases k' with
  | zero => exact S.no.elim
  | succ k' =>
    have S : Sat g W0 m H (stepL (evN c hb k') k t ifs rn n0 i s h) P := S
    unfold stepL at S
    split at S
    · exact S.no.elim
    · rename_i e
      exact .inl ⟨at_stop hJ A.hr e, m, h, A, hd, S.ok0 A.hr⟩
    · rename_i u e
      obtain ⟨g1, g2⟩ := at_go hJ A.hr e
      refine .inr ⟨g1, fun H' => LcW g q c hb k t ifs rn J n0 D s (L2.wipe σ vs) P (i + 1) k' H', fun H' w => ⟨k', Nat.lt_succ_self k', w⟩, fun x H' y => ?_⟩
      obtain ⟨m', l', hr', rv⟩ := g2 x H' y
      split at S
      · exact S.no.elim
      · rename_i s' e'
        refine ⟨m', s, h, u, s', A.to l' hr', rv, e', fun σ2 A2 ho => ⟨(ho vs fun _ z => z).trans (wipe_wipe σ vs), k', m', s', h, A2, ((Sat.bind S).mono l').imp fun b h3 m3 H3 l3 hr3 S3 => ?_⟩⟩
        have A3 := (A.to l' hr').to l3 hr3
        have J3 := (hJ.mono l').mono l3
        have d3 := pre_get l3.pre (pre_get l'.pre hd)
        cases b with
        | false => exact ⟨m3, h3, A3, J3, d3, S3⟩
        | true =>
          refine ⟨k', m3, s', h3, A2.to l3 hr3, (Sat.bind S3).imp fun u4 h4 m4 H4 l4 hr4 S4 v4 rv4 => ?_⟩
          have A4 := A3.to l4 hr4
          have d4 := pre_get l4.pre d3
          split at S4
          · rename_i acc e4
            obtain ⟨ys, k1, hx⟩ := hr4.lstAt d4 e4
            obtain ⟨ct, S4⟩ := ite_sat S4
            have hset : VRs g m4 H4 (acc ++ [u4]) (ys ++ [v4]) := hx.append (.cons rv4 .nil)
            have L5 := Le.set (o := .lst (ys ++ [v4])) hr4 d4 e4
            have hr5 := hr4.set d4 e4 (u' := .lst (acc ++ [u4])) (o := .lst (ys ++ [v4])) ⟨_, rfl, hset⟩
            exact ⟨ys, k1, by rw [← hx.length]; exact lim_lt ct, m4, _, A4.to L5 hr5, (J3.mono l4).mono L5, d4, S4.mono L5⟩
          · exact S4.no.elim
theorem lc2_read {t t2 : IT} {it it2 : II} {ifs ifs2 : List IE} {vs vs2 : List Nat} {n : Nat} {σ : L2.St} {H : Hp} {Q : VK} (hp : ∀ p ∈ q.pin, p.1 ∉ vs) (hp2 : ∀ p ∈ q.pin, p.1 ∉ vs2) (x : TEv g W q (stepE c (evN c hb n) (.lc2 k t it ifs t2 it2 ifs2 vs vs2)) σ H Q) :
    tLc2 (TIv g W q ((evN c hb n).I it)) (setR g q vs fun u s => setT 10 t u s) (fun σ H Q => ∃ n, TTv g W0 q ((evN c hb n).Ts ifs) σ H Q) (fun σ H K => ∃ n, TIv g W0 q ((evN c hb n).I it2) σ H K) (setR g q vs2 fun u s => setT 10 t2 u s) (fun σ H Q => ∃ n, TTv g W0 q ((evN c hb n).Ts ifs2) σ H Q) (fun σ H Q => ∃ n, TEv g W0 q ((evN c hb n).E k) σ H Q) vs vs2 σ H Q := by
  obtain ⟨m, s, h, A, S⟩ := x
  refine ⟨m, s, h, A, (Sat.bind S).imp fun rn h1 m1 H1 l1 hr1 S1 J hJ D hD => ?_⟩
  have L := Le.alloc (o := .lst []) hr1 hD
  have hr2 := hr1.alloc hD (u := .lst []) (o := .lst []) ⟨[], rfl, rfl⟩
  have A2 := ((A.to l1 hr1).to L hr2).wipe (vs := vs) hp
  have hd : (m1 ++ [D])[h1.length]? = some D := by rw [hr1.len, List.getElem?_append_right (Nat.le_refl _), Nat.sub_self] <;> rfl
  refine ⟨fun i k' H => ∃ m h, At g q m (wipeE s vs) h (L2.wipe σ vs) H ∧ RnR g m H rn J ∧ m[h1.length]? = some D ∧ Sat g W0 m H ((evN c hb k').L2 k t ifs t2 it2 ifs2 vs2 rn h1.length i (wipeE s vs) h) (fun _ h' m' H' => Sat g W m' H' (.ok (.obj h1.length, h')) (VPost g Q)),
    ⟨n, _, _, A2, hJ.mono L, hd, (Sat.calm (Sat.bind S1)).mono L⟩, ?_⟩
  rintro i k' H ⟨m, h, A, hJ, hd, S⟩
  cases k' with
  | zero => exact S.no.elim
  | succ k' =>
    have S : Sat g W0 m H (stepL2 (evN c hb k') k t ifs t2 it2 ifs2 vs2 rn h1.length i (wipeE s vs) h) _ := S
    unfold stepL2 at S
    split at S
    · exact S.no.elim
    · rename_i e
      exact .inl ⟨at_stop hJ A.hr e, (S.ok0 A.hr).ok0 A.hr _ ⟨D, rfl, hd⟩⟩
    · rename_i u e
      obtain ⟨g1, g2⟩ := at_go hJ A.hr e
      refine .inr ⟨g1, fun H' => ∃ m h, At g q m (wipeE s vs) h (L2.wipe σ vs) H' ∧ RnR g m H' rn J ∧ m[h1.length]? = some D ∧ Sat g W0 m H' ((evN c hb k').L2 k t ifs t2 it2 ifs2 vs2 rn h1.length (i + 1) (wipeE s vs) h) (fun _ h' m' H' => Sat g W m' H' (.ok (.obj h1.length, h')) (VPost g Q)),
        fun H' w => ⟨k', Nat.lt_succ_self k', w⟩, fun x H' y => ?_⟩
      obtain ⟨m', l', hr', rv⟩ := g2 x H' y
      split at S
      · exact S.no.elim
      · rename_i s' e'
        refine ⟨m', wipeE s vs, h, u, s', A.to l' hr', rv, e', fun σ2 A2 ho => ⟨(ho vs fun _ z => z).trans (wipe_wipe σ vs), k', m', s', h, A2, ((Sat.bind S).mono l').imp fun b h3 m3 H3 l3 hr3 S3 => ?_⟩⟩
        have A3 := (A.to l' hr').to l3 hr3
        have J3 := (hJ.mono l').mono l3
        have d3 := pre_get l3.pre (pre_get l'.pre hd)
        cases b with
        | false => exact ⟨m3, h3, A3, J3, d3, S3⟩
        | true =>
          refine ⟨k', m3, s', h3, A2.to l3 hr3, (Sat.bind S3).imp fun rn2 h4 m4 H4 l4 hr4 S4 J2 hJ2 => ?_⟩
          have A4 := (A2.to l3 hr3).to l4 hr4
          have A4w := A4.wipe (vs := vs2) hp2
          have d4 := pre_get l4.pre d3
          refine ⟨LcW g q c hb k t2 ifs2 rn2 J2 h1.length D (wipeE s' vs2) (L2.wipe σ2 vs2) (fun _ h5 m5 H5 => Le g m4 H4 m5 H5 ∧ Sat g W0 m5 H5 ((evN c hb k').L2 k t ifs t2 it2 ifs2 vs2 rn h1.length (i + 1) (wipeE s vs) h5) (fun _ h' m' H' => Sat g W m' H' (.ok (.obj h1.length, h')) (VPost g Q))),
            ⟨k', m4, h4, A4w, hJ2, d4, (Sat.bind S4).imp fun _ h5 m5 H5 l5 hr5 S5 => ⟨l5, S5⟩⟩, fun j k2 H5 w => ?_⟩
          rcases lc_turn (wipeE_twice s' vs2) w with ⟨st, m5, h5, A5, d5, l5, S5⟩ | z
          · exact .inl ⟨st, m5, h5, (A3.to l4 hr4).to l5 A5.hr, (J3.mono l4).mono l5, d5, S5⟩
          · exact .inr z
theorem n_lc2 {tg iter tg2 iter2 : Expr} {es es2 : List Expr} {scope : Scope} {own : List (Str × Nat)} {t t2 : IT} {it it2 : II} {ifs ifs2 : List IE} {vs vs2 : List Nat} (hc : X.calm = true) (hN : X.N.Nodup) (ok : BlkOk X.N X.env.scope scope own) (hv : vs = own.map (·.2)) (hp : ∀ p ∈ q.pin, p.1 ∉ vs) (hv2 : ∀ i ∈ vs2, i ∈ vs) (hs : noSet iter = true) (hs2 : noSet iter2 = true)
    (hi : NI X g W q c hb tg iter it) (hg : InB X scope fun Y => NG Y g q vs tg t) (ht : InB X scope fun Y => NTs Y g W0 q c hb es ifs) (hi2 : InB X scope fun Y => NI Y g W0 q c hb tg2 iter2 it2) (hg2 : InB X scope fun Y => NG Y g q vs2 tg2 t2) (ht2 : InB X scope fun Y => NTs Y g W0 q c hb es2 ifs2) (he : InB X scope fun Y => NE Y g W0 q c hb a k) :
    NE X g W q c hb (.ListComp a [⟨tg, iter, es, 0⟩, ⟨tg2, iter2, es2, 0⟩] scope pos) (.lc2 k t it ifs t2 it2 ifs2 vs vs2) :=
  .mk fun n => by
    subst hv
    exact (pe_lc2 hc hN (hi n) ok hv2 (fun s H C cl fp => hg s H C cl fp 10) (fun s H C cl fp => some_pts (ht s H C cl fp)) (fun s H C cl fp => some_pi (hi2 s H C cl fp)) (fun s H C cl fp => hg2 s H C cl fp 10) (fun s H C cl fp => some_pts (ht2 s H C cl fp)) (fun s H C cl fp => some_pe (he s H C cl fp)) (plain_of hs X.env) (fun env x => plain_of hs2 env x)).of fun σ H Q x => lc2_read hp (fun p hpp z => hp p hpp (hv2 _ z)) x
theorem s_setLc2 {ix : Nat} {x : Str} {px : Pos} {tg iter tg2 iter2 : Expr} {es es2 : List Expr} {scope : Scope} {own : List (Str × Nat)} {t t2 : IT} {it it2 : II} {ifs ifs2 : List IE} {vs vs2 : List Nat} {p2 : Pos} (hc : X.calm = true) (hN : X.N.Nodup) (hx : X.N[ix]? = some x) (hl : X.env.scope.names.lookup x = some .local)
    (hsw : swapsWith (.ListComp a [⟨tg, iter, es, 0⟩, ⟨tg2, iter2, es2, 0⟩] scope p2) (some (.Name x px)) pos.line X.env = pure true) (hpx : ∀ p ∈ q.pin, p.1 ≠ ix)
    (ok : BlkOk X.N X.env.scope scope own) (hv : vs = own.map (·.2)) (hp : ∀ p ∈ q.pin, p.1 ∉ vs) (hv2 : ∀ i ∈ vs2, i ∈ vs) (hs : noSet iter = true) (hs2 : noSet iter2 = true)
    (hi : NI X g W q c hb tg iter it) (hg : InB X scope fun Y => NG Y g q vs tg t) (ht : InB X scope fun Y => NTs Y g W0 q c hb es ifs) (hi2 : InB X scope fun Y => NI Y g W0 q c hb tg2 iter2 it2) (hg2 : InB X scope fun Y => NG Y g q vs2 tg2 t2) (ht2 : InB X scope fun Y => NTs Y g W0 q c hb es2 ifs2) (he : InB X scope fun Y => NE Y g W0 q c hb a k) :
    NS X g W q c hb (.Assign [.Name x px] (.ListComp a [⟨tg, iter, es, 0⟩, ⟨tg2, iter2, es2, 0⟩] scope p2) pos) (.asg (.nm ix) (.lc2 k t it ifs t2 it2 ifs2 vs vs2)) :=
  .mk fun n => by
    subst hv
    cases n with
    | zero => exact ⟨fun _ _ _ _ _ _ ⟨_, _, _, _, S⟩ => (Sat.bind S).no.elim⟩
    | succ n =>
      refine (ps_setLc2 hc hN hx hl hsw (hi n) ok hv2 (fun s H C cl fp => hg s H C cl fp 10) (fun s H C cl fp => some_pts (ht s H C cl fp)) (fun s H C cl fp => some_pi (hi2 s H C cl fp)) (fun s H C cl fp => hg2 s H C cl fp 10) (fun s H C cl fp => some_pts (ht2 s H C cl fp)) (fun s H C cl fp => some_pe (he s H C cl fp)) (plain_of hs X.env) (fun env x => plain_of hs2 env x)).of fun D σ H ⟨m, s, h, A, S⟩ => ?_
      refine lc2_read (Q := fun x H1 => gName ix x σ H1 D.nx) hp (fun p hpp z => hp p hpp (hv2 _ z)) ⟨m, s, h, A, (Sat.bind S).imp fun u h1 m1 H1 l1 hr1 S1 v rv => S1.ok0 hr1 _ ((A.to l1 hr1).put rv hpx)⟩
theorem i_zpN {nm : Str} {np : Pos} {x : Str} {p : Pos} (hK : X.K = g.K) (hx : x = "zip") (hg : Gl X x) (hm : X.mg x = none) (hp : plainE a = true) (hp2 : plainE b = true) (ha : NE X g W q c hb a i) (hb' : NE X g W q c hb b j) :
    NI X g W q c hb (.Name nm np) (.Call (.Name x p) [a, b] [] pos) (.zpN i j) :=
  .mk fun n => by
    subst hx
    refine (pi_zipN hg hm (pa_cons (ha n) (pa_cons (hb' n) pa_nil (star_of hp2 _ _)) (star_of hp _ _)) (star_of hp _ _) (any_stars (by rw [List.all_cons, hp2] <;> rfl))).of fun σ H Q ⟨m, s, h, A, S⟩ =>
      ⟨m, s, h, A, (Sat.bind S).imp fun u h1 m1 H1 l1 hr1 S1 v rv => ⟨m1, s, h1, A.to l1 hr1, (Sat.bind S1).imp fun u2 h2 m2 H2 l2 hr2 S2 v2 rv2 => ?_⟩⟩
    have rv := VR.mono l2 _ _ rv
    split at S2
    · rename_i n1 n2 e e2
      rw [show u = .obj n1 from e] at rv
      rw [show u2 = .obj n2 from e2] at rv2
      split at S2
      · rename_i xs zs e0 e1
        obtain ⟨p, ys, rfl, hn, k1, hx⟩ := hr2.getL rv e0
        obtain ⟨p', ys', rfl, hn', k1', hx'⟩ := hr2.getL rv2 e1
        exact ⟨p, p', ys, ys', rfl, SqL.of k1, SqL.of k1', by rw [hK]; exact S2.ok0 hr2 _ ⟨p, p', hn, hn', rfl⟩⟩
      · exact S2.no.elim
    · exact S2.no.elim
end
end Rf
set_option maxHeartbeats 2000000
namespace Rf
open PySem PySem.Spec PyProof.Rows L2 LamX NdefX RfE
/-! ### functions made of lambdas that capture nothing -/
theorem zlook : ∀ {ps : List Str} {us : List Value} {n : Str}, us.length = ps.length → n ∈ ps → ((ps.zip us).lookup n).isNone = false
  | [], _, _, _, h => nomatch h
  | p :: ps, [], _, hl, _ => by simp at hl
  | p :: ps, u :: us, n, hl, h => by
    rw [List.zip_cons_cons, List.lookup_cons]
    split
    · rfl
    · rename_i e
      rcases List.mem_cons.mp h with h | h
      · subst h; simp at e
      · exact zlook (by simpa using hl) h
theorem zfm : ∀ {ps : List Str} {us : List Value} (qs : List Str) (ws : List Value), us.length = ps.length → ws.length = qs.length → (qs ++ ps).Nodup → ps.filterMap (fun n => (((qs ++ ps).zip (ws ++ us)).lookup n).map (n, ·)) = ps.zip us
  | [], _, _, _, _, _, _ => by rfl
  | p :: ps, [], _, _, hl, _, _ => by simp at hl
  | p :: ps, u :: us, qs, ws, hl, hw, nd => by
    have e : ((qs ++ p :: ps).zip (ws ++ u :: us)).lookup p = some u := by
      rw [List.zip_append hw.symm]
      have : (qs.zip ws).lookup p = none := by
        cases e : (qs.zip ws).lookup p with
        | none => rfl
        | some v =>
          have hm := (List.of_mem_zip (PySem.mem_of_lookup e)).1
          rw [List.nodup_append] at nd
          exact absurd rfl (nd.2.2 p hm p List.mem_cons_self)
      rw [List.lookup_append, this, List.zip_cons_cons, List.lookup_cons]
      simp
    rw [List.filterMap_cons, e]
    have ih := zfm (ps := ps) (us := us) (qs ++ [p]) (ws ++ [u]) (by simpa using hl) (by simp [hw]) (by simpa using nd)
    simp only [List.append_assoc, List.cons_append, List.nil_append] at ih
    rw [List.zip_cons_cons]
    simp only [Option.map_some]
    rw [ih]
theorem bind_plain {q : Str} {as : List Arg} {body : Expr} {scope : Scope} {pm cdv ctv : Value} {us : List Value} (nd : (as.map (·.arg)).Nodup) (hl : us.length = as.length) :
    bindArgs (PySem.W.kla_fn "<lambda>" q ⟨[], as, none, [], [], none, []⟩ body scope [] pm cdv ctv) ⟨us, []⟩ = pure ((as.map (·.arg)).zip us) := by
  have hl' : us.length = (as.map (·.arg)).length := by rw [List.length_map]; exact hl
  unfold bindArgs
  dsimp only
  generalize as.map (·.arg) = ps at nd hl' ⊢
  have h1 : ps.filter (fun n => ((ps.zip us).lookup n).isNone) = [] := List.filter_eq_nil_iff.mpr fun n hn => by rw [zlook hl' hn]; simp
  have h2 := zfm (ps := ps) (us := us) [] [] hl' rfl (by simpa using nd)
  simp only [List.nil_append] at h2
  simp [seqItems?, hl', h1, h2]
  rfl
/-- as a def within a def, its body left out -/
abbrev LamD.nf (F : LamD) : NF := ⟨"<lambda>", F.q, F.params, [], F.scope, [], F.c⟩
theorem cells_nil {h : Heap} {H : Hp} : CellsAt [] [] [] h H := ⟨rfl, fun y c e => by simp at e, fun x y c e _ => by simp at e, fun i y e => by simp at e⟩
theorem startF_eq {N : List Str} {vs : List V} : startF N vs [] = L2.start N vs := by
  unfold startF L2.start
  simp
section
variable {P : Program} {w : World} {K : PySem.W.Frag} {mg : Str → Option Value} {base : Heap} {CX : CXT} {N ps : List Str} {F : LamD} {k : Nat} {sp : Sp}
/-- its body keeps the promise -/
theorem fnL_of (S : NScope N ps [] F.scope) (hb : ∀ (pm ctv : Value) (us : List Value), us.length = ps.length → bindArgs (PySem.W.kla_fn "<lambda>" F.q F.params F.body F.scope [] pm (.ref F.c) ctv) ⟨us, []⟩ = pure (ps.zip us)) (len : ∀ vs H Q E, sp vs H Q E → vs.length = ps.length)
    (hbody : ∀ (f : Addr) (A : Around) (outer : List Env) (s : Shared) (H : Hp) (vs : List V) (Q : VK) (E : XK), A.guards = some [] → Room k (A.deeper (envF F.nf f s.heap.objs.size)) → sp vs H Q E →
      ∃ t, PE (ncx CX P w K mg base N F.nf f A outer s H E) F.body t ∧ t (L2.start N vs) H Q) : FnL P w K mg base CX (k + 1) F sp := by
  refine ⟨fun f A outer s H us vs Q E hA hr e0 hf hc r hsp => ?_⟩
  have hl := len _ _ _ _ hsp
  have lim : s.heap.NoLimit := e0.mod.nolimit.keeps fun b o e => (e0.bs b o e).1
  obtain ⟨od, sl, pm, ctv, ho⟩ := lamF_at e0.hok hf
  refine PySem.W.kla_callFunE hr.depth ho rfl S.co S.gen rfl (codeO_at e0.hok hc) ?_
  rw [hb pm ctv us (by rw [← r.length]; exact hl)]
  refine wpAny_pure (wpAny_newFunctionEnv S.nocell (fun ⟨n, _⟩ hy => S.par n (List.of_mem_zip hy).1) (fun h₁ hns hsb => ⟨lim.fresh _ hsb, ?_⟩) S.kind)
  show codeAny _ _ (.expr F.body (envF F.nf f s.heap.objs.size)) _ _
  have kp : ∀ b o, s.heap.get? b = some o → h₁.get? b = some o := fun b o e => hsb.extBut b o (Nat.ne_of_lt (Heap.lt_size e)) (Heap.get?_push_of_some _ e)
  obtain ⟨t, ht, hq⟩ := hbody f A outer s H vs Q E hA (hr.deeper _) hsp
  have I : Inv (ncx CX P w K mg base N F.nf f A outer s H E) [] (startF N vs []) H { s with heap := h₁, toks := s.toks + (ps.zip us).length } := inv_startN (F := F.nf) (fr := []) (ws := []) S hr.hd e0 hl r cells_nil hns kp
  rw [startF_eq] at I
  refine PySem.W.kla_codeExpr (wpAny_mono (ht.run [] _ _ H Q I hq) (fun v s' hq => ?_) fun e s' hq => hq)
  obtain ⟨w', H', J', rv, q⟩ := hq
  exact ⟨w', H', J'.os, J'.bare, J'.base, J'.hok, rv, q⟩
end
/-! ### made -/
theorem clo_nil {cells : List (Str × Addr)} {names : List (Str × NameKind)} (h : ∀ y ∈ names, y.2 ≠ .free) : cloFrom cells names [] = [] :=
  List.eq_nil_iff_forall_not_mem.mpr fun ⟨n, c⟩ hq => (cloFrom_mem hq).elim (fun z => nomatch z) fun z => h _ z.1 rfl
section
variable {X : Cx} {pins : List (Addr × Obj)} {σ : L2.St} {H : Hp} {s : Shared}
theorem inv_lam {F : LamD} {o : Obj} {t' : Nat} {pm ctv : Value} (I : Inv X pins σ H s) (ho : o = { cls := .type "function", data := .func (PySem.W.kla_fn "<lambda>" F.q F.params F.body F.scope [] pm (.ref F.c) ctv) }) :
    Inv X pins σ (upd H s.heap.objs.size (LamO s.heap.objs.size F)) { s with heap := s.heap.push o, toks := t' } := by
  subst ho
  refine I.laid (a := s.heap.objs.size) (fun b u e => Heap.get?_push_of_some _ e) (Nat.le_refl _) ?_
  have e : (s.heap.push ({ cls := .type "function", data := .func (PySem.W.kla_fn "<lambda>" F.q F.params F.body F.scope [] pm (.ref F.c) ctv) } : Obj)).get? s.heap.objs.size = some ({ cls := .type "function", data := .func (PySem.W.kla_fn "<lambda>" F.q F.params F.body F.scope [] pm (.ref F.c) ctv) } : Obj) := Heap.get?_push_size _ rfl
  exact ⟨⟨_, _, pm, ctv, e⟩, ⟨_, e⟩, fun h1 h2 ⟨od, sl, p, t, z⟩ st => ⟨od, sl, p, t, st _ z⟩⟩
theorem lam_make3 {T : List (Addr × Str)} {c P : Addr} {params : Arguments} {body : Expr} {scope : Scope} {pos : Pos} {E : Value → Shared → Prop} {Q : Value → Shared → Prop} (I : Inv X pins σ H s) (TB : TabB X.base X.mg c P) (hcode : X.env.code = .ref c)
    (hm : (P, X.env.qual ++ "<lambda>") ∈ T) (hu : ∀ p ∈ T, p.1 = P → p.2 = X.env.qual ++ "<lambda>") (hT : Tabs T H) (hdef : defaultsOf params X.env = ([], [])) (hfree : ∀ y ∈ scope.names, y.2 ≠ .free)
    (h : ∀ (f c' : Addr) (H1 : Hp) (s' : Shared), ExtN H H1 → Tabs T H1 → H1 f = none → H1 c' = some (CodeO c' (X.env.qual ++ "<lambda>")) → Inv X pins σ (upd H1 f (LamO f ⟨X.env.qual ++ "<lambda>", params, body, scope, c'⟩)) s' → Q (.ref f) s') :
    wpAny (model X.prog X.w) X.A (eval (.Lambda params body scope pos) X.env) Q E s := by
  obtain ⟨ps, hP, ht, ha⟩ := hT _ hm
  have hcl : cloFrom X.env.cells scope.names [] = [] := clo_nil hfree
  have hfr : ∀ y ∈ scope.names, y.2 = .free → ∃ c, X.env.cells.lookup y.1 = some c := fun y hy e => absurd e (hfree y hy)
  refine PySem.W.kla_eval hdef ?_
  have bP : s.heap.BuiltinsAt X.mg P := TB.bm.keeps I.bk
  have hP' : s.heap.get? P = some { cls := .none, data := .fields ps } := I.hok P _ hP
  have hco := closure_ok (env := X.env) hfr
  rw [hcl] at hco
  cases hc : codeAmong pos ps.toList with
  | none =>
    refine PySem.W.kla_makeFunction (mg := X.mg) (c := c) (P := P) (ps := ps) hco I.ok.glob (I.mod.glob.keeps I.bk) hcode (TB.code.keeps I.bk) hP' ht hc TB.gP bP fun c' ctv h' tk hx hge hlt hrec htb => ?_
    obtain ⟨c2, oc, vs, t, e2, hoc, hd, hv⟩ := hrec
    cases e2
    have nC : H c' = none := I.hok.fresh hge
    have I1 := inv_table (t' := tk) (more := #[rawInt pos.line, rawInt pos.col, .ref c']) (h' := h') (q := X.env.qual ++ "<lambda>") I hP (fun b o hb e => hx b o hb e) htb hge ⟨oc, vs, t, hoc, hd, hv⟩
    have hE : ExtN H (upd (upd H P (.tbl (ps ++ #[rawInt pos.line, rawInt pos.col, .ref c']))) c' (CodeO c' (X.env.qual ++ "<lambda>"))) := fun b o e n => by
      rw [upd_ne (ne_of_none e nC), upd_ne (fun z => n ps (Option.some.inj (e.symm.trans (by rw [z]; exact hP))))]
      exact e
    have eL : (ps ++ #[rawInt pos.line, rawInt pos.col, .ref c']).toList = ps.toList ++ [rawInt pos.line, rawInt pos.col, .ref c'] := by simp
    have nF := I1.hok.fresh (Nat.le_refl _)
    have I2 := inv_lam (F := ⟨X.env.qual ++ "<lambda>", params, body, scope, c'⟩) (t' := tk) (pm := (X.mg "__name__").getD .none) (ctv := ctv) I1 rfl
    refine h h'.objs.size c' _ _ hE (fun p hp => ?_) nF upd_same I2
    by_cases hb : p.1 = P
    · rw [hu p hp hb, hb]
      refine ⟨_, by rw [upd_ne (ne_of_none hP nC), upd_same], by rw [eL]; exact PySem.TriplesOk_snoc _ _ _ _ ht, fun p' cv hcv => ?_⟩
      rw [eL] at hcv
      rcases among_app _ ht hcv with z | z
      · obtain ⟨c0, e1, e2⟩ := ha p' cv z
        exact ⟨c0, e1, hE _ _ e2 codeO_ne⟩
      · exact ⟨c', z, upd_same⟩
    · obtain ⟨ps', a1, a2, a3⟩ := hT p hp
      refine ⟨ps', by rw [upd_ne (ne_of_none a1 nC), upd_ne hb]; exact a1, a2, fun p' cv hcv => ?_⟩
      obtain ⟨c0, e1, e2⟩ := a3 p' cv hcv
      exact ⟨c0, e1, hE _ _ e2 codeO_ne⟩
  | some cv =>
    obtain ⟨c', e, hco2⟩ := ha pos cv hc
    subst e
    refine PySem.W.kla_makeFunctionHit (mg := X.mg) (c := c) (P := P) (ps := ps) hco I.ok.glob (I.mod.glob.keeps I.bk) hcode (TB.code.keeps I.bk) hP' ht hc bP fun ctv h' tk hx hsz => ?_
    have I1 : Inv X pins σ H { s with heap := h', toks := tk } := I.kept hx
    have nF : H h'.objs.size = none := I1.hok.fresh (Nat.le_refl _)
    have I2 := inv_lam (F := ⟨X.env.qual ++ "<lambda>", params, body, scope, c'⟩) (t' := tk) (pm := (X.mg "__name__").getD .none) (ctv := ctv) I1 rfl
    exact h h'.objs.size c' _ _ (ExtN.refl H) hT nF hco2 I2
end
theorem HR.allocS {g : Gs} {m : List Addr} {H : Hp} {h : List Ob} {p : Addr} {u : Ob} {o : HO} (x : HR g m H h) (hp : H p = none) (hu : OR g (m ++ [p]) (upd H p o) u o) : HR g (m ++ [p]) (upd H p o) (h ++ [u]) := by
  have l := Le.alloc (o := o) x hp
  refine ⟨tab_new x.tab hp, by rw [List.length_append, List.length_append, x.len] <;> rfl, ?_, fun n v e => ?_⟩
  · refine List.nodup_append.mpr ⟨x.nd, by simp, fun a ha b hb => ?_⟩
    have e : b = p := by simpa using hb
    rw [e]
    exact fun z => x.fresh hp (z ▸ ha)
  · by_cases hn : n < h.length
    · rw [List.getElem?_append_left hn] at e
      obtain ⟨q, ho, a, b, c⟩ := x.at_ n v e
      exact ⟨q, ho, pre_get l.pre a, by rw [upd_ne (ne_of_none b hp)]; exact b, c.mono l⟩
    · have hn' : n = h.length := by
        have := (List.getElem?_eq_some_iff.mp e).1
        rw [List.length_append] at this
        have : n < h.length + 1 := this
        omega
      subst hn'
      rw [List.getElem?_append_right (Nat.le_refl _), Nat.sub_self] at e
      have e' : u = v := by simpa using e
      subst e'
      refine ⟨p, o, ?_, upd_same, hu⟩
      rw [x.len, List.getElem?_append_right (Nat.le_refl _), Nat.sub_self] <;> rfl
theorem n_lamv {X : Cx} {g : Gs} {W : WX} {q : Iv g} {c : Cf} {hb : Hbt} {j : Nat} {cA PA : Addr} {params : Arguments} {body : Expr} {scope : Scope} {pos : Pos} (TB : TabB X.base X.mg cA PA) (hcode : X.env.code = .ref cA)
    (hm : (PA, X.env.qual ++ "<lambda>") ∈ g.T) (hu : ∀ p ∈ g.T, p.1 = PA → p.2 = X.env.qual ++ "<lambda>") (hdef : defaultsOf params X.env = ([], [])) (hfree : ∀ y ∈ scope.names, y.2 ≠ .free)
    (hL : ∀ c', g.LS j ⟨X.env.qual ++ "<lambda>", params, body, scope, c'⟩) : NE X g W q c hb (.Lambda params body scope pos) (.lamv j) :=
  .mk fun n => ⟨fun pins s0 σ H Q I ⟨m, s, h, A, S⟩ => by
    refine lam_make3 I TB hcode hm hu A.hr.tab hdef hfree fun f c' H1 s' eN T1 hf hco I1 => ?_
    obtain ⟨l, hr1⟩ := le_ext A.hr eN T1
    have hcm : c' ∉ m := hr1.nocode hco
    have hcf : c' ≠ f := ne_of_none hco hf
    have hr2 : HR g (m ++ [f]) (upd H1 f (LamO f ⟨X.env.qual ++ "<lambda>", params, body, scope, c'⟩)) (h ++ [.lam h.length j]) := hr1.allocS hf ⟨f, _, by rw [hr1.len, List.getElem?_append_right (Nat.le_refl _), Nat.sub_self] <;> rfl, rfl, hL c', by rw [upd_ne hcf]; exact hco, fun z => by
      rcases List.mem_append.mp z with z | z
      · exact hcm z
      · exact hcf (by simpa using z)⟩
    exact ⟨.ref f, _, I1, rfl, S (m ++ [f]) _ (l.trans (Le.alloc hr1 hf)) hr2 (.ref f) ⟨f, rfl, by rw [hr1.len, List.getElem?_append_right (Nat.le_refl _), Nat.sub_self] <;> rfl⟩⟩⟩
end Rf
set_option maxHeartbeats 4000000
namespace Rf
open PySem PySem.Spec PyProof.Rows L2 LamX RfE
/-! ### instances: attributes read and stored, methods, constructors -/
/-- o.m(..), as a method's call goes -/
theorem meth_eq {o : Expr} {m : Str} {apos pos : Pos} {es : List Expr} {env : Env} (hbase : attributeBase o m env (eval o env) = eval o env)
    (hform : methodCallForm (es.length + ([] : List Keyword).length) (backTo pos (starEach es env)) (backToKw pos (keywordEach [] env)) = true) (hline : (apos.endLine == pos.line) = true) :
    eval (.Call (.Attribute o m apos) es [] pos) env = (do
      let ov ← eval o env
      standAt apos.atName
      let (f, first) ← holding [ov] (getMethod ov m (do return (← importBound o env).getD true))
      callWith pos f first (backTo pos (starEach es env)) (backToKw pos (keywordEach [] env))) := by
  have hpos : methodCallPos true o env apos pos = pure pos := by unfold methodCallPos; simp [hline]
  rw [arm_eval_Call, hbase]
  unfold methodCall
  rw [hform]
  simp only [hpos, pure_bind, calleeOf, if_true]
/-- an instance made, by a promise for a place where nothing is guarded -/
theorem run_makeG {X : Cx} {CX : CXT} {k : Nat} {f C : Addr} {fd : FuncData} {ps : List Str} {sp : Sp} {pins : List (Addr × Obj)} {σ : L2.St} {H : Hp} {s : Shared} {Q : VK} {us : List Value} {vs : List V} {E : XK} (M : L2.Mk X.K C f) (F : FnG X.prog X.w X.K X.mg X.base CX k f fd ps sp) (hA : X.A.guards = some []) (hr : Room (k + 1) X.A) (hb : L2.Binds X.K fd ps [])
    (hx : PassesAt CX X σ E) (I : Inv X pins σ H s) (r : Vals vs us)
    (h : ∀ x dx, H x = none → H dx = none → dx ≠ x → sp (.ref x :: vs) (upd (upd H dx (.own x)) x (.ins C dx [])) (fun v H2 => v = .non ∧ Q (.ref x) H2) E) :
    wpAny (model X.prog X.w) X.A (call (.ref C) us) (EP X pins σ Q) X.xe s := by
  have hq := h (s.heap.objs.size + 1) s.heap.objs.size (I.hok.fresh (Nat.le_succ _)) (I.hok.fresh (Nat.le_refl _)) (Nat.ne_of_lt (Nat.lt_succ_self _))
  have I2 := Inv.made (C := C) I
  have r2 : Vals (V.ref (s.heap.objs.size + 1) :: vs) (Value.ref (s.heap.objs.size + 1) :: us) := .cons rfl r
  have hl : (Value.ref (s.heap.objs.size + 1) :: us).length = ps.length := by
    have e := r2.length
    rw [F.len _ _ _ _ hq] at e
    exact e.symm
  have b := hb _ (Value.ref (s.heap.objs.size + 1) :: us) I2.kIn (by rw [List.append_nil]; exact hl)
  rw [List.append_nil] at b
  refine wpAny_call (make_map (f := f) I.kIn M.makes M.init (beq_iff_eq.mp M.fn) (codeAny_mono (F.run _ X.stack _ _ ⟨Value.ref (s.heap.objs.size + 1) :: us, []⟩ (Value.ref (s.heap.objs.size + 1) :: us) (V.ref (s.heap.objs.size + 1) :: vs) _ E ?_ (hr.make C us [])
    (I2.env0.make C us []) b r2 hq) fun r s' hq' => ?_))
  · exact hA
  · cases r with
    | error e => exact hx pins _ _ e s' I2 hq'
    | ok fl =>
      cases fl with
      | ret u =>
        obtain ⟨v, H', I3, rv, ev, q3⟩ := I2.after hq'
        subst ev
        exact ⟨rv, ⟨V.ref (s.heap.objs.size + 1), H', I3, rfl, q3⟩⟩
      | next => exact False.elim hq'
      | brk => exact False.elim hq'
      | cont => exact False.elim hq'
/-- the module's classes of instances -/
structure ClsOk (pr : Pr) (g : Gs) (fl mt : List (Str × Nat)) (K : PySem.W.Frag) : Prop where
  slo : ∀ (ci : Nat) (k : Cl) (f i : Nat) (x : Str), pr.cls[ci]? = some k → lkN k.slo f = some i → fl.lookup x = some f → SlX.SCls K (g.cl ci) ∧ ∃ p, SlX.Slot1 K (g.cl ci) x p i
  prp : ∀ (ci : Nat) (k : Cl) (f d : Nat), pr.cls[ci]? = some k → lkN k.prp f = some d → False
  mts : ∀ (ci : Nat) (k : Cl) (mm d : Nat) (x : Str), pr.cls[ci]? = some k → lkN k.mts mm = some d → mt.lookup x = some mm → SlX.SCls K (g.cl ci) ∧ Meth K (g.cl ci) x (g.ad d) ∧ d < pr.npos
section
variable {X : Cx} {g : Gs} {W : WX} {q : Iv g} {c : Cf} {hb : Hbt} {a b d : Expr} {i j k : IE} {pos : Pos} {pr : Pr} {fl mt : List (Str × Nat)}
theorem insC_ok {m : List Addr} {H : Hp} {h : List Ob} {u : Uv} {v : V} {n dd ci : Nat} {vs : List (Option Uv)} {kd : Cl} (hr : HR g m H h) (rv : VR g m H u v) (e : insC c u h = some (n, dd, ci, vs, kd)) :
    ∃ (a dx : Addr) (ws : List (Option V)) (st sd : Bool), u = .obj n ∧ v = .ref a ∧ m[n]? = some a ∧ m[dd]? = some dx ∧ h[n]? = some (.ins n dd ci st vs) ∧ h[dd]? = some (.dxo sd) ∧ SlX.Slt H a (g.cl ci) dx ws ∧ VRo g m H vs ws ∧ c.cls[ci]? = some kd := by
  unfold insC at e
  split at e
  · rename_i n'
    split at e
    · rename_i d' ci' vs' e1
      split at e
      · rename_i k' e2
        cases e
        obtain ⟨a, dx, ws, st, sd, h1, h2, h3, h4, h5, h6, h7⟩ := insAt_ok hr rv e1
        exact ⟨a, dx, ws, st, sd, rfl, h1, h2, h3, h4, h5, h6, h7, e2⟩
      · cases e
    · cases e
  · cases e
theorem n_att {f : Nat} {x : Str} (hK : X.K = g.K) (hc : c.cls = pr.cls) (C : ClsOk pr g fl mt X.K) (hf : fl.lookup x = some f) (ho : plainO a = true) (ha : NE X g W q c hb a i) : NE X g W q c hb (.Attribute a x pos) (.att f i) :=
  .mk fun n => (SlX.pe_sl (ha n) (base_of ho _ _)).of fun σ H Q ⟨m, s, h, A, S⟩ => ⟨m, s, h, A, (Sat.bind S).imp fun u h1 m1 H1 l1 hr1 S1 v rv => by
    split at S1
    · rename_i nn dd ci vs kd e
      obtain ⟨ad, dx, ws, st, sd, rfl, rfl, e1, e2, e3, e4, e5, e6, e7⟩ := insC_ok hr1 rv e
      rw [hc] at e7
      split at S1
      · rename_i ix e8
        obtain ⟨k1, p, k2⟩ := C.slo _ _ _ _ _ e7 e8 hf
        split at S1
        · rename_i w ew
          obtain ⟨y, y1, y2⟩ := e6.get ew
          exact ⟨ad, _, dx, p, ws, ix, y, rfl, e5, k1, k2, y1, same_ok hr1 S1 y2⟩
        · exact S1.no.elim
      · split at S1
        · rename_i d' e9
          exact (C.prp _ _ _ _ e7 e9).elim
        · exact S1.no.elim
    · exact S1.no.elim⟩
theorem stA_ok {f : Nat} {x : Str} {m : List Addr} {H : Hp} {h h' : List Ob} {o u : Uv} {v y : V} (hc : c.cls = pr.cls) (C : ClsOk pr g fl mt g.K) (hf : fl.lookup x = some f) (hr : HR g m H h) (ro : VR g m H o v) (ru : VR g m H u y) (e : stA c f o u h = some h') :
    ∃ a Cc dx p vs i, v = .ref a ∧ SlX.Slt H a Cc dx vs ∧ SlX.SCls g.K Cc ∧ SlX.Slot1 g.K Cc x p i ∧ Le g m H m (SlX.slH H a Cc dx (SlX.putS i y vs)) ∧ HR g m (SlX.slH H a Cc dx (SlX.putS i y vs)) h' := by
  unfold stA at e
  split at e
  · rename_i nn dd ci vs kd e0
    obtain ⟨ad, dx, ws, st, sd, rfl, rfl, e1, e2, e3, e4, e5, e6, e7⟩ := insC_ok hr ro e0
    rw [hc] at e7
    split at e
    · rename_i ix e8
      cases e
      obtain ⟨k1, p, k2⟩ := C.slo _ _ _ _ _ e7 e8 hf
      obtain ⟨L, hr2⟩ := slt_store (i := ix) hr e1 e2 e3 e4 e6 ru
      exact ⟨ad, _, dx, p, ws, ix, rfl, e5, k1, k2, L, hr2⟩
    · cases e
  · cases e
theorem s_putA {f : Nat} {x : Str} {p2 : Pos} (hK : X.K = g.K) (hc : c.cls = pr.cls) (C : ClsOk pr g fl mt X.K) (hf : fl.lookup x = some f) (hs : noComp b = true) (ho : NE X g W q c hb a i) (hv : NE X g W q c hb b j) : NS X g W q c hb (.Assign [.Attribute a x p2] b pos) (.putA f i j) :=
  .mk fun n => (SlX.ps_sl (ho n) (hv n) (swaps_no hs _ _ _)).of fun D σ H ⟨m, s, h, A, S⟩ => ⟨m, s, h, A, (Sat.bind S).imp fun u h1 m1 H1 l1 hr1 S1 v rv => ⟨m1, s, h1, A.to l1 hr1, (Sat.bind S1).imp fun o h2 m2 H2 l2 hr2 S2 w rw' => by
    obtain ⟨h', e, S2⟩ := okO_sat S2
    obtain ⟨ad, Cc, dx, p, vs, ix, k1, k2, k3, k4, L, hr3⟩ := stA_ok hc (hK ▸ C) hf hr2 rw' (VR.mono l2 _ _ rv) e
    exact ⟨ad, Cc, dx, p, vs, ix, k1, k2, by rw [hK]; exact k3, by rw [hK]; exact k4, S2 _ _ L hr3 σ (((A.to l1 hr1).to l2 hr2).to L hr3)⟩⟩⟩
theorem run_fnGm {kk kr dn np : Nat} {σ : L2.St} {H : Hp} {s : Shared} {Q : VK} {pins : List (Addr × Obj)} {us : List Value} {vs : List V} (F : Callee X kr (g.ad dn) np (spI pr g kk dn)) (tk : Takes X W) (hA : X.A.guards = some []) (hr : Room kr X.A) (I : Inv X pins σ H s) (r : Vals vs us) (h : spI pr g kk dn vs H Q (WE W σ)) :
    wpAny (model X.prog X.w) X.A (call (.ref (g.ad dn)) us) (EP X pins σ Q) X.xe s := by
  obtain ⟨fd, ps, F, hb', hk⟩ := F.ex
  exact run_fnG F hA hr hb' (passAt tk σ) I r h
/-- what a receiver and its method are -/
theorem metc_recv {kk mm n : Nat} {x : Str} {is : List IE} {m : List Addr} {H : Hp} {h : List Ob} {s : Env'} {σ : L2.St} {Q : VK} (hK : X.K = g.K) (hc : c.cls = pr.cls) (hcl : c.call = callF pr kk) (C : ClsOk pr g fl mt X.K) (hm : mt.lookup x = some mm) (A : At g q m s h σ H) (S : Sat g W m H (stepE c (evN c hb n) (.metc mm i is) s h) (VPost g Q)) :
    Sat g W m H ((evN c hb n).E i s h) fun u h1 m1 H1 => ∀ v, VR g m1 H1 u v → ∃ (a dx Cc : Addr) (vs : List (Option V)) (dn : Nat), v = .ref a ∧ SlX.Slt H1 a Cc dx vs ∧ SlX.SCls X.K Cc ∧ Meth X.K Cc x (g.ad dn) ∧ dn < pr.npos ∧
      TAv g W q ((evN c hb n).Es is) σ H1 (fun ws H2 => spI pr g kk dn (.ref a :: ws) H2 Q (WE W σ)) :=
  (Sat.bind S).imp fun u h1 m1 H1 l1 hr1 S1 v rv => by
    split at S1
    · rename_i nn dd ci vs kd e
      obtain ⟨ad, dx, ws, st, sd, rfl, rfl, e1, e2, e3, e4, e5, e6, e7⟩ := insC_ok hr1 rv e
      rw [hc] at e7
      split at S1
      · rename_i dn e8
        obtain ⟨k1, k2, k3⟩ := C.mts _ _ _ _ _ e7 e8 hm
        refine ⟨ad, dx, _, ws, dn, rfl, e5, k1, k2, k3, m1, s, h1, A.to l1 hr1, (Sat.bind S1).imp fun us h2 m2 H2 l2 hr2 S2 zs rz => ?_⟩
        rw [hcl] at S2
        exact ⟨m2, h2, _ :: us, hr2, .cons (VR.mono l2 _ _ rv) rz, S2.here ((A.sr.mono l1).mono l2)⟩
      · exact S1.no.elim
    · exact S1.no.elim
/-- o.m(..), m a def of o's class -/
theorem n_metc {kk kr mm : Nat} {x : Str} {es : List Expr} {is : List IE} {apos : Pos} (hK : X.K = g.K) (hc : c.cls = pr.cls) (hcl : c.call = callF pr kk) (C : ClsOk pr g fl mt X.K) (hm : mt.lookup x = some mm) (F : ∀ f, f < pr.npos → ∃ np, Callee X kr (g.ad f) np (spI pr g kk f)) (tk : Takes X W) (hA : X.A.guards = some []) (hr : Room kr X.A)
    (ho : plainO d = true) (hl : (apos.endLine == pos.line) = true) (hp : (a :: es).all plainE = true) (hn : es.length < 20) (hd : NE X g W q c hb d i) (ha : NA X g W q c hb (a :: es) is) : NE X g W q c hb (.Call (.Attribute d x apos) (a :: es) [] pos) (.metc mm i is) :=
  .mk fun n => by
    have hf : methodCallForm ((a :: es).length + ([] : List Keyword).length) (backTo pos (starEach (a :: es) X.env)) (backToKw pos (keywordEach [] X.env)) = true := by
      unfold methodCallForm
      exact few_of (pos := pos) (env := X.env) hp (by rw [List.length_cons]; omega)
    refine ⟨fun pins s0 σ H Q I ⟨m, s, h, A, S⟩ => ?_⟩
    refine PySem.W.methodCall_KW (thn ((hd n).run pins s0 σ H _ I ⟨m, s, h, A, metc_recv (n := n) hK hc hcl C hm A S⟩) fun u s1 ⟨v, H1, I1, r1, ad, dx, Cc, vs, dn, e1, e2, e3, e4, e5, q1⟩ => ?_) (meth_eq (base_of ho _ _) hf hl)
    subst e1
    obtain rfl : u = Value.ref ad := r1
    obtain ⟨np, F⟩ := F dn e5
    refine SlX.getmethsl_ok I1 e2 e3 e4 ?_
    rw [List.all_cons, Bool.and_eq_true] at hp
    refine PySem.W.callWith_K (first := [.ref ad]) (h₀ := X.base) I1.ok.mod.kin e4.kp (thn ((ha n).run pos pins s1 σ H1 _ I1 q1) fun us s2 ⟨ws, H2, I2, r, q2⟩ => ⟨I2.kIn, ?_⟩) (star_of hp.1 _ _) (any_stars hp.2)
    exact run_fnGm (us := .ref ad :: us) (vs := .ref ad :: ws) F tk hA hr I2 (.cons rfl r) q2
theorem n_metc0 {kk kr mm : Nat} {x : Str} {apos : Pos} (hK : X.K = g.K) (hc : c.cls = pr.cls) (hcl : c.call = callF pr kk) (C : ClsOk pr g fl mt X.K) (hm : mt.lookup x = some mm) (F : ∀ f, f < pr.npos → ∃ np, Callee X kr (g.ad f) np (spI pr g kk f)) (tk : Takes X W) (hA : X.A.guards = some []) (hr : Room kr X.A)
    (ho : plainO d = true) (hl : (apos.endLine == pos.line) = true) (hd : NE X g W q c hb d i) : NE X g W q c hb (.Call (.Attribute d x apos) [] [] pos) (.metc mm i []) :=
  .mk fun n => by
    have hf : methodCallForm (([] : List Expr).length + ([] : List Keyword).length) (backTo pos (starEach [] X.env)) (backToKw pos (keywordEach [] X.env)) = true := by rfl
    refine ⟨fun pins s0 σ H Q I ⟨m, s, h, A, S⟩ => ?_⟩
    refine PySem.W.methodCall_KW (thn ((hd n).run pins s0 σ H _ I ⟨m, s, h, A, metc_recv (n := n) hK hc hcl C hm A S⟩) fun u s1 ⟨v, H1, I1, r1, ad, dx, Cc, vs, dn, e1, e2, e3, e4, e5, q1⟩ => ?_) (meth_eq (base_of ho _ _) hf hl)
    subst e1
    obtain rfl : u = Value.ref ad := r1
    obtain ⟨np, F⟩ := F dn e5
    refine SlX.getmethsl_ok I1 e2 e3 e4 ?_
    refine PySem.W.callWith_K0 (first := [.ref ad]) I1.kIn e4.kp ?_
    obtain ⟨m1, s', h1, A1, S1⟩ := q1
    have q2 : spI pr g kk dn [.ref ad] H1 Q (WE W σ) := by
      cases n with
      | zero => exact S1.no.elim
      | succ n => exact S1.ok0 A1.hr [] .nil
    exact run_fnGm (us := [.ref ad]) (vs := [.ref ad]) F tk hA hr I1 (.cons rfl .nil) q2
/-- C(..) -/
theorem n_new {kk kr dn ci np : Nat} {x : Str} {p : Pos} {es : List Expr} {is : List IE} (hc : c.call = callF pr kk) (hm : X.mg x = some (.ref (g.cl ci))) (M : L2.Mk X.K (g.cl ci) (g.ad dn)) (F : Callee X kr (g.ad dn) np (spI pr g kk dn)) (tk : Takes X W) (hA : X.A.guards = some []) (hr : Room (kr + 1) X.A) (hg : Gl X x)
    (hdb : (x == ("__debug__" : Str)) = false) (hp : (a :: es).all plainE = true) (ha : NA X g W q c hb (a :: es) is) : NE X g W q c hb (.Call (.Name x p) (a :: es) [] pos) (.new ci dn is) :=
  .mk fun n => by
    rw [List.all_cons, Bool.and_eq_true] at hp
    obtain ⟨fd, ps, F, hb', hk⟩ := F.ex
    refine ⟨fun pins s0 σ H Q I ⟨m, s, h, A, S⟩ => ?_⟩
    refine wpAny_Call_Name_kw (ld_glob I hg hm ?_ hdb)
    have hq : TAv g W q ((evN c hb n).Es is) σ H (fun vs H1 => ∀ x dx, H1 x = none → H1 dx = none → dx ≠ x → spI pr g kk dn (.ref x :: vs) (upd (upd H1 dx (.own x)) x (.ins (g.cl ci) dx [])) (fun v H2 => v = .non ∧ Q (.ref x) H2) (WE W σ)) :=
      ⟨m, s, h, A, (Sat.bind S).imp fun us h1 m1 H1 l1 hr1 S1 vs rv x dx hx hdx hne => by
        obtain ⟨L, hr2, rx⟩ := slt_new (c := ci) hr1 hx hdx hne
        rw [hc] at S1
        refine ⟨_, _, _, hr2, .cons rx (VRs.mono L _ _ rv), (Sat.here ((Sat.bind S1).mono L) ((A.sr.mono l1).mono L)).imp fun u h3 m3 H3 l3 hr3 S3 v rv3 => ?_⟩
        split at S3
        · rename_i e
          rw [show u = .non from e] at rv3
          have rv3 : v = .non := rv3
          exact ⟨rv3, S3.ok0 hr3 _ (VR.mono l3 _ _ rx)⟩
        · exact S3.no.elim⟩
    refine PySem.W.callWith_K (h₀ := X.base) I.ok.mod.kin M.kp (thn ((ha n).run pos pins s0 σ H _ I hq) fun us s1 ⟨vs, H1, I1, r, q1⟩ => ⟨I1.kIn, ?_⟩) (star_of hp.1 _ _) (any_stars hp.2)
    exact run_makeG M F hA hr hb' (passAt tk σ) I1 r q1
end
end Rf
set_option maxHeartbeats 4000000
namespace Rf
open PySem PySem.Spec PyProof.Rows L2 LamX RfE
/-! ### several targets, attributes and items among them -/
def setM (g : Gs) (q : Iv g) (W : WX) (c : Cf) (v : Ev) (ts : List TGt) : TGs := fun vs σ H Q => ∃ m s h us, At g q m s h σ H ∧ VRs g m H us vs ∧ Sat g W m H (stepM c v ts us s h) fun s' h' m' H' => ∀ σ', At g q m' s' h' σ' H' → Q σ' H'
def NM (X : Cx) (g : Gs) (W : WX) (q : Iv g) (c : Cf) (hb : Hbt) (es : List Expr) (ts : List TGt) : Prop := ∀ n, PGs X es (setM g q W c (evN c hb n) ts)
/-- o.f = .. -/
def gSl (K : PySem.W.Frag) (ta : TE) (f : Str) : TG := fun y σ H Q => ta σ H fun x H2 => ∃ a C dx p vs i, x = .ref a ∧ SlX.Slt H2 a C dx vs ∧ SlX.SCls K C ∧ SlX.Slot1 K C f p i ∧ Q σ (SlX.slH H2 a C dx (SlX.putS i y vs))
theorem pg_sl {X : Cx} {o : Expr} {f : Str} {pos : Pos} {ta : TE} (ha : PE X o ta) : PG X (.Attribute o f pos) (gSl X.K ta f) := by
  refine ⟨fun pins s σ H v u Q I r h => ?_⟩
  show wpAny _ _ (do
    let ov ← holding [u] (eval o X.env)
    standAt pos.atName
    holding [u, ov] (setAttr ov f u)
    release [u, ov] []) _ _ _
  refine wpAny_bind (wpAny_holding (thn (ha.run pins s σ H _ I h) fun ov s1 ⟨x, H1, I1, r1, a, C, dx, p, vs, i, ex, hsl, c, t, q⟩ => ?_))
  subst ex
  obtain rfl : ov = Value.ref a := r1
  refine wpAny_bind (wpAny_standAt (wpAny_bind (wpAny_holding (SlX.setslot_ok I1 hsl c t r fun s3 I3 => ?_))))
  exact wpAny_release ⟨σ, _, I3, q⟩
def plainM : Expr → Bool
  | .Name .. => true | .Tuple .. => true | .Attribute .. => true | .Subscript .. => true
  | _ => false
theorem each_ofM {t : Expr} (h : plainM t = true) (ts : List Expr) (env : Env) : assignEach (t :: ts) env = (false, assign t env) :: assignEach ts env := by
  cases t <;> first | rfl | cases h
theorem each_lenM {env : Env} : ∀ {ts : List Expr}, ts.all plainM = true → (assignEach ts env).length = ts.length ∧ (assignEach ts env).findIdx? (·.1) = none
  | [], _ => ⟨rfl, rfl⟩
  | t :: ts, h => by
    rw [List.all_cons, Bool.and_eq_true] at h
    obtain ⟨h1, h2⟩ := each_lenM (env := env) h.2
    rw [each_ofM h.1]
    refine ⟨by rw [List.length_cons, h1] <;> rfl, ?_⟩
    rw [List.findIdx?_cons]
    simp [h2]
section
variable {X : Cx} {g : Gs} {W : WX} {q : Iv g} {c : Cf} {hb : Hbt} {a b d : Expr} {i j k : IE} {pos : Pos} {pr : Pr} {fl mt : List (Str × Nat)} {es : List Expr} {ts : List TGt}
theorem gm_nil : NM X g W q c hb [] [] := fun n => pgs_nil.of fun vs σ H Q ⟨m, s, h, us, A, r, S⟩ => by
  cases us with
  | nil =>
    simp only [stepM] at S
    exact ⟨r, S.ok0 A.hr σ A⟩
  | cons u us =>
    simp only [stepM] at S
    exact S.no.elim
theorem gm_nm {sl : List Nat} {t : Expr} {it : IT} (hp : plainG t = true) (h1 : NG X g q sl t it) (h2 : NM X g W q c hb es ts) : NM X g W q c hb (t :: es) (.nm it :: ts) := fun n =>
  (pgs_cons (h1 10) (h2 n) (each_of hp _ _)).of fun vs σ H Q ⟨m, s, h, us, A, r, S⟩ => by
    cases us with
    | nil => simp only [stepM] at S; exact S.no.elim
    | cons u us =>
      obtain ⟨y, w, rfl, r1, r2⟩ := r
      simp only [stepM] at S
      split at S
      · rename_i s1 e1
        exact ⟨y, w, rfl, m, s, h, u, s1, A, r1, e1, fun σ1 A1 _ => ⟨m, s1, h, us, A1, r2, S⟩⟩
      · exact S.no.elim
theorem gm_at {f : Nat} {x : Str} (hK : X.K = g.K) (hc : c.cls = pr.cls) (C : ClsOk pr g fl mt X.K) (hf : fl.lookup x = some f) (ho : NE X g W q c hb a i) (h2 : NM X g W q c hb es ts) : NM X g W q c hb (.Attribute a x pos :: es) (.at_ f i :: ts) := fun n =>
  (pgs_cons (pg_sl (ho n)) (h2 n) rfl).of fun vs σ H Q ⟨m, s, h, us, A, r, S⟩ => by
    cases us with
    | nil => simp only [stepM] at S; exact S.no.elim
    | cons u us =>
      obtain ⟨y, w, rfl, r1, r2⟩ := r
      simp only [stepM] at S
      refine ⟨y, w, rfl, m, s, h, A, (Sat.bind S).imp fun o h1 m1 H1 l1 hr1 S1 v rv => ?_⟩
      split at S1
      · rename_i h' e
        obtain ⟨ad, Cc, dx, p, vs', ix, k1, k2, k3, k4, L, hr3⟩ := stA_ok hc (hK ▸ C) hf hr1 rv (VR.mono l1 _ _ r1) e
        exact ⟨ad, Cc, dx, p, vs', ix, k1, k2, by rw [hK]; exact k3, by rw [hK]; exact k4, m1, s, h', us, (A.to l1 hr1).to L hr3, VRs.mono L _ _ (VRs.mono l1 _ _ r2), S1.mono L⟩
      · exact S1.no.elim
theorem gm_sub {x : Expr} (hK : X.K = g.K) (hP : X.prog = g.P) (hw : X.w = g.w) (hu : X.A.units + 9 < cLine) (hs : noSlice x = true) (ho : NE X g W q c hb a i) (hx : NE X g W q c hb x j) (h2 : NM X g W q c hb es ts) : NM X g W q c hb (.Subscript a x pos :: es) (.sub i j :: ts) := fun n =>
  (pgs_cons (pg_sub (ho n) (hx n) ((set_list.or (set_dict (by omega))).or (set_nd hu)) (by intro v; cases x <;> first | rfl | cases hs)) (h2 n) rfl).of fun vs σ H Q ⟨m, s, h, us, A, r, S⟩ => by
    cases us with
    | nil => simp only [stepM] at S; exact S.no.elim
    | cons u us =>
      obtain ⟨y, w, rfl, r1, r2⟩ := r
      simp only [stepM] at S
      refine ⟨y, w, rfl, m, s, h, A, (Sat.bind S).imp fun o h1 m1 H1 l1 hr1 S1 v rv => ⟨m1, s, h1, A.to l1 hr1, (Sat.bind S1).imp fun z h2' m2 H2 l2 hr2 S2 v2 rv2 => ?_⟩⟩
      split at S2
      · rename_i h' e
        rw [hK, hP, hw]
        exact stI_ok hr2 e (VR.mono l2 _ _ rv) rv2 (VR.mono (l1.trans l2) _ _ r1) fun H' L hr4 => ⟨m2, s, h', us, ((A.to l1 hr1).to l2 hr2).to L hr4, VRs.mono L _ _ (VRs.mono (l1.trans l2) _ _ r2), S2.mono L⟩
      · exact S2.no.elim
/-- as stepM, told of the number of targets -/
theorem s_asgM {y : Nat} {tp : Pos} (hK : X.K = g.K) (hcm : X.calm = true) (hp : es.all plainM = true) (hl : es.length = ts.length) (hw : swappedStores [.Tuple es y tp] a X.env = pure none) (hg : NM X g W q c hb es ts) (ha : NE X g W q c hb a i) : NS X g W q c hb (.Assign [.Tuple es y tp] a pos) (.asgM ts i) :=
  .mk fun n => (ps_asg (ha n) (pg_tup hcm (hg n) (each_lenM hp).1 (each_lenM hp).2) (sole_other rfl _ _) hw rfl).of fun D σ H ⟨m, s, h, A, S⟩ => ⟨m, s, h, A, (Sat.bind S).imp fun u h1 m1 H1 l1 hr1 S1 v rv => by
    split at S1
    · rename_i us e
      rw [show u = .tup us from e] at rv
      obtain ⟨p, ys, rfl, hq, hx⟩ := rv
      obtain ⟨ct, S1⟩ := ite_satb S1
      refine ⟨p, ys, rfl, by rw [hK]; exact hq, by rw [← hx.length, hl]; exact Nat.eq_of_beq_eq_true ct, m1, s, h1, us, A.to l1 hr1, hx, (Sat.bind S1).imp fun s' h2 m2 H2 l2 hr2 S2 σ' A' => S2.ok0 hr2 σ' A'⟩
    · exact S1.no.elim⟩
end
end Rf
set_option maxHeartbeats 4000000
namespace Rf
open PySem PySem.Spec PyProof.Rows L2 LamX RfE
/-! ### from the text to the data -/
/-- where a text stands -/
structure Ct where
  sc : Scope
  N : List Str
  pin : List Nat
  calm : Bool
  lam : Bool
  fn : Str → Bool
  ac : Option Str
  fx : Option (Str × Nat)
  tr : Bool
  sp : Expr → Option IE
/-- the module's names -/
structure Gt where
  fns : List (Str × Nat)
  vals : List (Str × Nat)
  nb : List Str
  cl0 : List (Str × Nat)
  cl1 : List (Str × (Nat × Str))
  hn : List (Str × Nat)
  th : List (Str × Nat)
  lz : List (Nat × Nat)
  vl : List (Nat × Nat) := []
  pn : List (Nat × List Nat) := []
  lk : List (Nat × Nat) := []
  dk : List (Nat × Nat) := []
  kw : List (Str × (Nat × (Nat × Str))) := []
  fl : List (Str × Nat) := []
  mt : List (Str × Nat) := []
  cn : List (Str × (Nat × Nat)) := []
  kd : List (Str × (Nat × List Uv)) := []
  lams : List (Nat × IE × Nat) := []
def ixOf : List Str → Str → Option Nat
  | [], _ => none
  | y :: r, x => if y = x then some 0 else (ixOf r x).map (· + 1)
theorem ixOf_get : ∀ {N : List Str} {x : Str} {i : Nat}, ixOf N x = some i → N[i]? = some x
  | [], _, _, h => by cases h
  | y :: r, x, i, h => by
    unfold ixOf at h
    split at h
    · rename_i e
      cases h
      rw [e]; rfl
    · cases e : ixOf r x with
      | none => rw [e] at h; cases h
      | some j =>
        rw [e] at h
        cases h
        show (y :: r)[j + 1]? = some x
        rw [List.getElem?_cons_succ]
        exact ixOf_get e
def gd {α : Type} (c : Bool) (x : Option α) : Option α := match c with
  | true => x
  | false => none
theorem gd_some {α : Type} {c : Bool} {x : Option α} {a : α} (h : gd c x = some a) : c = true ∧ x = some a := by
  cases c with
  | true => exact ⟨rfl, h⟩
  | false => cases h
def ob {α β : Type} (x : Option α) (f : α → Option β) : Option β := match x with
  | some a => f a
  | none => none
theorem ob_some {α β : Type} {x : Option α} {f : α → Option β} {b : β} (h : ob x f = some b) : ∃ a, x = some a ∧ f a = some b := by
  cases x with
  | none => cases h
  | some a => exact ⟨a, rfl, h⟩
def visB (sc : Scope) (x : Str) : Bool := match sc.names.lookup x with
  | some .local => true | some .cell => true | some .free => true
  | _ => false
theorem vis_by {sc : Scope} {x : Str} (h : visB sc x = true) : Vis sc x := by
  unfold visB at h
  split at h
  · exact .inl (by assumption)
  · exact .inr (.inl (by assumption))
  · exact .inr (.inr (by assumption))
  · cases h
def locB (sc : Scope) (x : Str) : Bool := match sc.names.lookup x with
  | some .local => true | some .cell => true
  | _ => false
theorem loc_by {sc : Scope} {x : Str} (h : locB sc x = true) : Loc sc x := by
  unfold locB at h
  split at h
  · exact .inl (by assumption)
  · exact .inr (by assumption)
  · cases h
def lclB (sc : Scope) (x : Str) : Bool := match sc.names.lookup x with
  | some .local => true
  | _ => false
theorem lcl_by {sc : Scope} {x : Str} (h : lclB sc x = true) : sc.names.lookup x = some .local := by
  unfold lclB at h
  split at h
  · assumption
  · cases h
def glB (sc : Scope) (x : Str) : Bool := (match sc.names.lookup x with
  | some .globalImplicit => true
  | _ => false) && !decide (x = ("__debug__" : Str))
theorem gl_by {X : Cx} {x : Str} (h : glB X.env.scope x = true) : Gl X x ∧ (x == ("__debug__" : Str)) = false := by
  unfold glB at h
  rw [Bool.and_eq_true] at h
  refine ⟨?_, ?_⟩
  · have h1 := h.1
    show X.env.scope.names.lookup x = _
    split at h1
    · assumption
    · cases h1
  · have h2 := h.2
    simpa using h2
structure Cm where
  E : Ct → Expr → Option IE
  A : Ct → List Expr → Option (List IE)
  T : Ct → Expr → Option IE
  W : Ct → Expr → Option IE
  G : Ct → List Nat → Expr → Option IT
  Gs : Ct → List Nat → List Expr → Option (List IT)
  S : Ct → Stmt → Option IS
  Ss : Ct → List Stmt → Option (List IS)
def cConst (k : Const) : Option IE := match k with
  | .none => some (.lit .non)
  | .bool b => some (.lit (.bl b))
  | .int i => some (.lit (.int i))
  | .str x => some (.lit (.str x))
  | _ => none
def cName (G : Gt) (C : Ct) (x : Str) : Option IE := match visB C.sc x with
  | true => gd (!decide (x = ("__debug__" : Str)) && !decide (x = ("__classdict__" : Str))) (ob (ixOf C.N x) fun i => some (.var i))
  | false => gd (glB C.sc x) (ob (G.vals.lookup x) fun j => some (.glb j))
def cCmp (v : Cm) (C : Ct) (a : Expr) (ops : List CmpOp) (cs : List Expr) : Option IE := match ops, cs with
  | [o], [b] => gd (!behindInMarks o b) (ob (v.E C a) fun i => ob (v.E C b) fun j => some (.cmp o i j))
  | [o, o'], [b, d] => gd (!lastMarks [o, o'] [b, d]) (ob (v.E C a) fun i => ob (v.E C b) fun j => ob (v.E C d) fun k => some (.cmp2 o o' i j k))
  | _, _ => none
def cUn (v : Cm) (C : Ct) (o : UnaryOp) (a : Expr) : Option IE := match o with
  | .Not => ob (v.E C a) fun i => some (.not i)
  | .USub => ob (v.E C a) fun i => some (.neg i)
  | _ => none
def tailB (o : BoolOp) (i : IE) (r : IE) : Option IE := match r with
  | .bop o' (j :: is) => gd (decide (o' = o)) (some (.bop o (i :: j :: is)))
  | _ => none
def cBop (v : Cm) (C : Ct) (o : BoolOp) (es : List Expr) (p : Pos) : Option IE := match es with
  | [] => none
  | [a] => ob (v.E C a) fun i => some (.bop o [i])
  | a :: b :: r => ob (v.E C a) fun i => ob (v.E C (.BoolOp o (b :: r) p)) fun t => tailB o i t
def cOpt (v : Cm) (C : Ct) (e : Option Expr) : Option (Option IE) := match e with
  | none => some none
  | some e => ob (v.E C e) fun i => some (some i)
def cSub (v : Cm) (C : Ct) (a b : Expr) : Option IE := match b with
  | .Slice lo hi st _ => (match st with
    | none => ob (v.E C a) fun i => ob (cOpt v C lo) fun l => ob (cOpt v C hi) fun h => some (.slc i l h)
    | some z => (match lo, hi, z with
      | none, none, .UnaryOp .USub (.Constant (.int 1) _ _) _ => ob (v.E C a) fun i => some (.rev i)
      | _, _, _ => none))
  | b => gd (noSlice b) (ob (v.E C a) fun i => ob (v.E C b) fun j => some (.sub i j))
def cFld (C : Ct) (o : Expr) (f : Str) : Option IE := match o with
  | .Name x _ => ob C.fx fun p => gd (decide (p.1 = x)) (some (.fld f))
  | _ => none
/-- an attribute: of a caught exception, or a slot of an instance -/
def cAtt (G : Gt) (v : Cm) (C : Ct) (o : Expr) (f : Str) : Option IE := match cFld C o f with
  | some i => some i
  | none => gd (plainO o) (ob (G.fl.lookup f) fun n => ob (v.E C o) fun i => some (.att n i))
def ownOf (N : List Str) (scope : Scope) : List (Str × Nat) := scope.names.filterMap fun y => match y.2 with
  | .local => (ixOf N y.1).map fun i => (y.1, i)
  | .cell => (ixOf N y.1).map fun i => (y.1, i)
  | _ => none
def Ct.blk (C : Ct) (scope : Scope) : Ct := { C with sc := relS scope C.sc, lam := false, fn := fun x => scope.names.lookup x == some .cell, ac := none, fx := none, tr := false, sp := fun _ => none }
def Ct.lm (C : Ct) (scope : Scope) : Ct := { C with sc := scope, lam := false, fn := fun _ => false, ac := none, fx := none, tr := false, calm := true, sp := fun _ => none }
/-- where a lambda's body stands that captures nothing and has parameters -/
def lmCt (scope : Scope) (N : List Str) : Ct := ⟨scope, N, [], true, false, fun _ => false, none, none, false, fun _ => none⟩
def plainArgs (a : Arguments) : Bool := a.posonlyargs.isEmpty && a.vararg.isNone && a.kwonlyargs.isEmpty && a.kw_defaults.isEmpty && a.kwarg.isNone && a.defaults.isEmpty
mutual
def eqI (n : Nat) (a b : IE) : Bool := match n with
  | 0 => false
  | n + 1 => match a, b with
    | .var i, .var j => Nat.beq i j
    | .varL i, .varL j => Nat.beq i j
    | .glb i, .glb j => Nat.beq i j
    | .lit u, .lit w => eqU u w
    | .call f es, .call f' es' => Nat.beq f f' && eqIs n es es'
    | _, _ => false
def eqIs (n : Nat) (a b : List IE) : Bool := match n with
  | 0 => false
  | n + 1 => match a, b with
    | [], [] => true
    | a :: as, b :: bs => eqI n a b && eqIs n as bs
    | _, _ => false
end
def cLamV (G : Gt) (v : Cm) (C : Ct) (params : Arguments) (body : Expr) (scope : Scope) : Option IE :=
  gd (C.lam && plainArgs params && NdefX.nscB (params.args.map (·.arg)) (params.args.map (·.arg)) [] scope)
    (ob (v.E (lmCt scope (params.args.map (·.arg))) body) fun ib => ob (G.lams.find? fun p => Nat.beq p.1 params.args.length && eqI 50 p.2.1 ib) fun p => some (.lamv p.2.2))
def cTs (v : Cm) (C : Ct) (es : List Expr) : Option (List IE) := match es with
  | [] => some []
  | [e] => ob (v.T C e) fun i => some [i]
  | _ => none
def callOf (e : Expr) : Option (Str × List Expr) := match e with
  | .Call (.Name x _) es [] _ => some (x, es)
  | _ => none
def cSeq (v : Cm) (C : Ct) (e : Expr) : Option II := ob (v.E C e) fun i => some (.seq i)
def isTup : Expr → Bool
  | .Tuple .. => true
  | _ => false
def isNm : Expr → Bool
  | .Name .. => true
  | _ => false
def cItB (G : Gt) (v : Cm) (C : Ct) (tg : Expr) (x : Str) (es : List Expr) : Option II := match es with
  | [a] => match decide (x = ("range" : Str)) with
    | true => gd (plainE a) (ob (v.E C a) fun i => some (.rng1 i))
    | false => gd (decide (x = ("enumerate" : Str)) && plainE a && isTup tg) (ob (v.E C a) fun i => some (.enm i))
  | [a, b] => match decide (x = ("range" : Str)) with
    | true => gd (plainE a && plainE b) (ob (v.E C a) fun i => ob (v.E C b) fun j => some (.rng2 i j))
    | false => gd (decide (x = ("zip" : Str)) && plainE a && plainE b && (isTup tg || isNm tg)) (ob (v.E C a) fun i => ob (v.E C b) fun j => some (match isTup tg with
      | true => .zp i j
      | false => .zpN i j))
  | [a, b, d] => gd (decide (x = ("range" : Str)) && plainE a && plainE b && plainE d) (ob (v.E C a) fun i => ob (v.E C b) fun j => ob (v.E C d) fun k => some (.rng3 i j k))
  | _ => none
def itemsOf (e : Expr) : Option (Expr × Pos × Pos) := match e with
  | .Call (.Attribute a m apos) [] [] pos => gd (decide (m = ("items" : Str))) (some (a, apos, pos))
  | _ => none
def plainO2 : Expr → Bool
  | .Name .. => true | .Subscript .. => true | .Attribute .. => true
  | .Call (.Name ..) (_ :: _) _ _ => true
  | _ => false
def cIt2 (G : Gt) (v : Cm) (C : Ct) (tg e : Expr) : Option II := match itemsOf e with
  | some p => gd (isTup tg && plainO2 p.1 && (p.2.1.endLine == p.2.2.line)) (ob (v.E C p.1) fun i => some (.itms i))
  | none => (match G.dk.contains (e.pos.line, e.pos.col) with
    | true => ob (v.E C e) fun i => some (.keys i)
    | false => cSeq v C e)
def cI (G : Gt) (v : Cm) (C : Ct) (tg iter : Expr) : Option II := match callOf iter with
  | some (x, es) => match decide (x = ("range" : Str)) || decide (x = ("enumerate" : Str)) || decide (x = ("zip" : Str)) with
    | true => gd (glB C.sc x && decide (x ∈ G.nb)) (cItB G v C tg x es)
    | false => cIt2 G v C tg iter
  | none => cIt2 G v C tg iter
/-- the parts of a comprehension -/
def cBlk (G : Gt) (v : Cm) (C : Ct) (gs : List Comprehension) (scope : Scope) : Option (IT × II × List IE × List Nat) := match gs with
  | [⟨tg, iter, es, z⟩] =>
    gd (C.calm && decide (z = 0) && blkC C.N C.sc scope (ownOf C.N scope) && (C.pin.all fun p => !((ownOf C.N scope).map (·.2)).contains p) && noSet iter)
      (ob (cI G v C tg iter) fun it => ob (v.G (C.blk scope) ((ownOf C.N scope).map (·.2)) tg) fun t => ob (cTs v (C.blk scope) es) fun ifs => some (t, it, ifs, (ownOf C.N scope).map (·.2)))
  | _ => none
def tIx (N : List Str) : Nat → Expr → List Nat
  | 0, _ => []
  | n + 1, e => match e with
    | .Name x _ => (match ixOf N x with
      | some i => [i]
      | none => [])
    | .Tuple ts _ _ => ts.flatMap (tIx N n)
    | _ => []
structure B2 where
  t : IT
  it : II
  ifs : List IE
  vs : List Nat
  t2 : IT
  it2 : II
  ifs2 : List IE
  vs2 : List Nat
/-- the parts of a comprehension of two clauses -/
def cBlk2 (G : Gt) (v : Cm) (C : Ct) (gs : List Comprehension) (scope : Scope) : Option B2 := match gs with
  | [⟨tg, iter, es, z⟩, ⟨tg2, iter2, es2, z2⟩] =>
    gd (C.calm && decide (z = 0) && blkC C.N C.sc scope (ownOf C.N scope) && (C.pin.all fun p => !((ownOf C.N scope).map (·.2)).contains p) && noSet iter && decide (z2 = 0) && noSet iter2 && (tIx C.N 5 tg2).all fun p => ((ownOf C.N scope).map (·.2)).contains p)
      (ob (cI G v C tg iter) fun it => ob (v.G (C.blk scope) ((ownOf C.N scope).map (·.2)) tg) fun t => ob (cTs v (C.blk scope) es) fun ifs =>
        ob (cI G v (C.blk scope) tg2 iter2) fun it2 => ob (v.G (C.blk scope) (tIx C.N 5 tg2) tg2) fun t2 => ob (cTs v (C.blk scope) es2) fun ifs2 => some ⟨t, it, ifs, (ownOf C.N scope).map (·.2), t2, it2, ifs2, tIx C.N 5 tg2⟩)
  | _ => none
def twoCl (gs : List Comprehension) : Bool := match gs with
  | [_, _] => true
  | _ => false
def cLc1 (G : Gt) (v : Cm) (C : Ct) (a : Expr) (gs : List Comprehension) (scope : Scope) : Option IE := ob (cBlk G v C gs scope) fun b => ob (v.E (C.blk scope) a) fun k => some (.lc k b.1 b.2.1 b.2.2.1 b.2.2.2)
def cLc2 (G : Gt) (v : Cm) (C : Ct) (a : Expr) (gs : List Comprehension) (scope : Scope) : Option IE := ob (cBlk2 G v C gs scope) fun b => ob (v.E (C.blk scope) a) fun k => some (.lc2 k b.t b.it b.ifs b.t2 b.it2 b.ifs2 b.vs b.vs2)
def cLc (G : Gt) (v : Cm) (C : Ct) (a : Expr) (gs : List Comprehension) (scope : Scope) : Option IE := match twoCl gs with
  | true => cLc2 G v C a gs scope
  | false => cLc1 G v C a gs scope
def cDc1 (G : Gt) (v : Cm) (C : Ct) (kx a : Expr) (gs : List Comprehension) (scope : Scope) : Option IE := ob (cBlk G v C gs scope) fun b => ob (v.E (C.blk scope) kx) fun kk => ob (v.E (C.blk scope) a) fun k => some (.dc kk k b.1 b.2.1 b.2.2.1 b.2.2.2)
def cDc2 (G : Gt) (v : Cm) (C : Ct) (kx a : Expr) (gs : List Comprehension) (scope : Scope) : Option IE := ob (cBlk2 G v C gs scope) fun b => ob (v.E (C.blk scope) kx) fun kk => ob (v.E (C.blk scope) a) fun k => some (.dc2 kk k b.t b.it b.ifs b.t2 b.it2 b.ifs2 b.vs b.vs2)
def cDc (G : Gt) (v : Cm) (C : Ct) (kx a : Expr) (gs : List Comprehension) (scope : Scope) : Option IE := match twoCl gs with
  | true => cDc2 G v C kx a gs scope
  | false => cDc1 G v C kx a gs scope
def noArgs (a : Arguments) : Bool := a.posonlyargs.isEmpty && a.args.isEmpty && a.vararg.isNone && a.kwonlyargs.isEmpty && a.kw_defaults.isEmpty && a.kwarg.isNone && a.defaults.isEmpty
def biL : List Bi := [.dict, .len, .tuple, .list, .sorted, .all, .any, .min2, .max2, .abs, .int, .repr]
def meL : List Me := [.append, .extend, .update, .get1, .index, .pop1]
def biF (x : Str) (n : Nat) : Option Bi := match decide (x = ("min" : Str)) && Nat.beq n 1 with
  | true => some .minD
  | false => biL.find? fun b => decide (biN b = x)
def nmOf (e : Expr) : Option Str := match e with
  | .Name x _ => some x
  | _ => none
def tyL : List Ty := [.int, .bl, .str, .tup, .lst, .dic]
def tyN (y : Str) : Option Ty := match bootBuiltins y with
  | some (.type t) => gd (!decide (y = ("__name__" : Str))) (tyL.find? fun T => decide (T.nm = t))
  | _ => none
/-- len(set(e)), tuple(range(e)), isinstance(e, C) -/
def valsOf (e : Expr) : Option (Expr × Pos × Pos) := match e with
  | .Call (.Attribute a m apos) [] [] pos => gd (decide (m = ("values" : Str))) (some (a, apos, pos))
  | _ => none
def cSp (G : Gt) (v : Cm) (C : Ct) (x : Str) (a : Expr) (r : List Expr) : Option IE := match r with
  | [] => match valsOf a with
   | some p => gd (decide (x = ("tuple" : Str)) && glB C.sc x && decide (x ∈ G.nb) && C.calm && plainO p.1 && (p.2.1.endLine == p.2.2.line)) (ob (v.E C p.1) fun i => gd (plainI i) (some (.bi .dvals [i])))
   | none => ob (callOf a) fun c => match c.2 with
    | [e] => gd (glB C.sc x && glB C.sc c.1 && decide (x ∈ G.nb) && decide (c.1 ∈ G.nb) && C.calm && plainE e) (ob (v.E C e) fun i => gd (plainI i)
      (match decide (x = ("len" : Str)) && decide (c.1 = ("set" : Str)) with
        | true => some (.bi .lenset [i])
        | false => match decide (x = ("tuple" : Str)) && decide (c.1 = ("range" : Str)) with
          | true => some (.bi .tuprng [i])
          | false => none))
    | _ => none
  | [b] => gd (decide (x = ("isinstance" : Str))) (ob (nmOf b) fun y => gd (glB C.sc x && glB C.sc y && decide (x ∈ G.nb) && decide (y ∈ G.nb)) (ob (tyN y) fun t => ob (v.E C a) fun i => some (.isi i t)))
  | _ => none
def cGn (G : Gt) (v : Cm) (C : Ct) (x : Str) (es : List Expr) : Option IE := match visB C.sc x with
  | true => gd (!decide (x = ("__debug__" : Str)) && !decide (x = ("__classdict__" : Str)) && C.calm) (ob (ixOf C.N x) fun i => ob (v.A C es) fun is => some (.callv i is))
  | false => gd (glB C.sc x) (match G.fns.lookup x with
    | some f => gd C.calm (ob (v.A C es) fun is => some (.call f is))
    | none => match G.kd.lookup x with
    | some p => gd C.calm (ob (v.A C es) fun is => some (.calld p.1 is p.2))
    | none => match G.cn.lookup x with
    | some p => gd C.calm (ob (v.A C es) fun is => some (.new p.1 p.2 is))
    | none => gd (decide (x ∈ G.nb)) (ob (biF x es.length) fun b => gd (!biCalm b || C.calm) (ob (v.A C es) fun is => some (.bi b is))))
def cCallN (G : Gt) (v : Cm) (C : Ct) (x : Str) (es : List Expr) : Option IE := match es with
  | [] => ob C.ac fun a => gd (decide (a = x)) (some .act)
  | a :: r => match a, r with
    | .Lambda params body scope _, [] => gd (C.lam && glB C.sc x && noArgs params && lamSB C.sc scope) (ob (G.th.lookup x) fun fi => ob (v.E (C.lm scope) body) fun i => some (.thk fi i))
    | a, r => gd (plainE a && r.all plainE) (match cSp G v C x a r with
      | some i => some i
      | none => cGn G v C x (a :: r))
/-- a method of a class, else one that is built in -/
def cMt (G : Gt) (C : Ct) (x : Str) : Option Nat := match C.calm with
  | true => G.mt.lookup x
  | false => none
def cCallM (G : Gt) (v : Cm) (C : Ct) (d : Expr) (x : Str) (apos : Pos) (es : List Expr) (pos : Pos) : Option IE := gd (plainO d && (apos.endLine == pos.line)) (ob (v.E C d) fun i => match es with
  | [] => (match cMt G C x with
    | some m => some (.metc m i [])
    | none => gd (decide (x = ("pop" : Str))) (some (.met .pop i [])))
  | a :: r => gd (plainE a && r.all plainE && decide (r.length < 20)) (match cMt G C x with
    | some m => ob (v.A C (a :: r)) fun is => some (.metc m i is)
    | none => ob (meL.find? fun b => decide (meN b = x)) fun me => ob (v.A C (a :: r)) fun is => some (.met me i is)))
def cCall (G : Gt) (v : Cm) (C : Ct) (f : Expr) (es : List Expr) (ks : List Keyword) (pos : Pos) : Option IE := match ks with
  | [] => (match f with
    | .Name x _ => cCallN G v C x es
    | .Attribute d x apos => cCallM G v C d x apos es pos
    | _ => none)
  | [⟨some y, b, _⟩] => (match f, es with
    | .Name x _, a :: r => match visB C.sc x with
     | true => gd (!decide (x = ("__debug__" : Str)) && !decide (x = ("__classdict__" : Str)) && C.calm && plainE a && r.all plainE) (ob (ixOf C.N x) fun i => ob (v.A C (a :: r)) fun is => ob (v.E C b) fun j => some (.callvk i is y j))
     | false => gd (C.calm && glB C.sc x && plainE a && r.all plainE) (ob (G.kw.lookup x) fun w => gd (decide (w.2.2 = y)) (ob (v.A C (a :: r)) fun is => ob (v.E C b) fun j => some (.callk w.1 w.2.1 is j)))
    | _, _ => none)
  | _ => none
/-- choices that are kept open; ends of a thunk that are the same -/
def wrapI (G : Gt) (pos : Pos) (i : IE) : IE := match G.lz.contains (pos.line, pos.col) with
  | true => .lazy i
  | false => match i with
    | .thk f e => .mrg (.thk f e)
    | i => i
def cE (G : Gt) (v : Cm) (C : Ct) (e : Expr) : Option IE := match e with
  | .Constant k _ _ => cConst k
  | .Name x p => (match G.vl.contains (p.line, p.col) with
    | true => gd (visB C.sc x && (!decide (x = ("__debug__" : Str)) && !decide (x = ("__classdict__" : Str)))) (ob (ixOf C.N x) fun i => some (.varL i))
    | false => cName G C x)
  | .BinOp a o b _ => ob (v.E C a) fun i => ob (v.E C b) fun j => some (.bin o i j)
  | .Compare a ops cs _ => cCmp v C a ops cs
  | .UnaryOp o a _ => cUn v C o a
  | .IfExp t a b _ => ob (v.T C t) fun k => ob (v.E C a) fun i => ob (v.E C b) fun j => some (.ite k i j)
  | .BoolOp o es p => cBop v C o es p
  | .Tuple es _ _ => ob (v.A C es) fun is => some (.tup is)
  | .List es _ => ob (v.A C es) fun is => some (.lst is)
  | .Subscript a b _ => cSub v C a b
  | .Call f es ks pos => (match C.sp (.Call f es ks pos) with
    | some i => some i
    | none => ob (cCall G v C f es ks pos) fun i => some (wrapI G pos i))
  | .Attribute o f _ => cAtt G v C o f
  | .ListComp a gs scope _ => cLc G v C a gs scope
  | .Lambda params body scope _ => cLamV G v C params body scope
  | .DictComp k w gs scope _ => cDc G v C k w gs scope
  | .Dict ks vs _ => (match ks, vs with
    | [], [] => some .dnil
    | [some k], [w] => ob (v.E C k) fun i => ob (v.E C w) fun j => some (.dlit i j)
    | _, _ => none)
  | _ => none
def cA (v : Cm) (C : Ct) (es : List Expr) : Option (List IE) := match es with
  | [] => some []
  | a :: r => match a with
    | .Starred e _ => gd C.calm (ob (v.E C e) fun i => ob (v.A C r) fun is => some (.star i :: is))
    | a => gd (plainE a) (ob (v.E C a) fun i => gd (plainI i) (ob (v.A C r) fun is => some (i :: is)))
def cW (v : Cm) (C : Ct) (e : Expr) : Option IE := match e with
  | .BoolOp o es p => (match es with
    | [] => none
    | [a] => ob (v.T C a) fun i => some (.bop o [i])
    | a :: b :: r => ob (v.T C a) fun i => ob (v.W C (.BoolOp o (b :: r) p)) fun t => tailB o i t)
  | _ => none
def cT (v : Cm) (C : Ct) (e : Expr) : Option IE := match e with
  | .BoolOp .. => v.W C e
  | .Compare a ops cs _ => cCmp v C a ops cs
  | .UnaryOp .Not a _ => ob (v.T C a) fun i => some (.not i)
  | e => gd (plainT e) (ob (v.E C e) fun i => gd (plainTI i) (some i))
def cG (v : Cm) (C : Ct) (sl : List Nat) (e : Expr) : Option IT := match e with
  | .Name x _ => ob (ixOf C.N x) fun i => gd (sl.contains i && locB C.sc x && (C.fn x || lclB C.sc x) && !C.pin.contains i) (some (.nm i))
  | .Tuple ts _ _ => gd (C.calm && ts.all plainG) (ob (v.Gs C sl ts) fun is => gd (ts.length == is.length) (some (.tp is)))
  | _ => none
def cGs (v : Cm) (C : Ct) (sl : List Nat) (es : List Expr) : Option (List IT) := match es with
  | [] => some []
  | t :: ts => gd (plainG t) (ob (v.G C sl t) fun i => ob (v.Gs C sl ts) fun is => some (i :: is))
/-! statements -/
def swB (sc : Scope) (value : Expr) (x : Str) (px : Pos) : Bool := match value with
  | .ListComp _ _ s _ => lclB sc x && px.line == value.pos.line && !(s.names.any fun (n, k) => n == x && (k == .local || k == .cell))
  | .SetComp _ _ s _ => lclB sc x && px.line == value.pos.line && !(s.names.any fun (n, k) => n == x && (k == .local || k == .cell))
  | .DictComp _ _ _ s _ => lclB sc x && px.line == value.pos.line && !(s.names.any fun (n, k) => n == x && (k == .local || k == .cell))
  | _ => false
def swN (sc : Scope) (ts : List Expr) : List Str := ts.filterMap fun
  | .Name id pos => if sc.names.lookup id == some .local && pos.line == (ts.head?.map (·.pos.line)).getD 0 then some id else none
  | _ => none
def isStar : Expr → Bool
  | .Starred .. => true
  | _ => false
def swOk (sc : Scope) (ts vs : List Expr) : Bool := (ts.length == 2 || ts.length == 3) && vs.length == ts.length && !(vs.any isStar) && (swN sc ts).length == ts.length && (swN sc ts).eraseDups.length == (swN sc ts).length && !(vs.all (foldedForSure 8)) && !(vs.all (constantsAlone 8))
def swNo (sc : Scope) (ts vs : List Expr) : Bool := !(ts.length == 2 || ts.length == 3) || vs.length != ts.length || vs.any isStar || (swN sc ts).length != ts.length || (swN sc ts).eraseDups.length != (swN sc ts).length
def cSetN (G : Gt) (v : Cm) (C : Ct) (x : Str) (px : Pos) (a : Expr) : Option IS := ob (ixOf C.N x) fun i => gd (locB C.sc x && (C.fn x || lclB C.sc x) && !C.pin.contains i) (match swB C.sc a x px with
  | false => ob (v.E C a) fun e => some (.asg (.nm i) e)
  | true => match a with
    | .ListComp elt gs scope _ => ob (cLc G v C elt gs scope) fun e => some (.asg (.nm i) e)
    | .DictComp kx elt gs scope _ => ob (cDc G v C kx elt gs scope) fun e => some (.asg (.nm i) e)
    | _ => none)
def nms (ts : List Expr) : Option (List Str) := match ts with
  | [] => some []
  | .Name x _ :: r => ob (nms r) fun l => some (x :: l)
  | _ => none
def cPar (v : Cm) (C : Ct) (ts vs : List Expr) : Option IS := gd (C.calm && swOk C.sc ts vs) (match ts with
  | [.Name x _, .Name y _] => gd (lclB C.sc x && lclB C.sc y && !decide (x = y)) (ob (ixOf C.N x) fun i => ob (ixOf C.N y) fun j => gd (!C.pin.contains i && !C.pin.contains j) (ob (v.A C vs) fun is => some (.par [i, j] is)))
  | [.Name x _, .Name y _, .Name z _] => gd (lclB C.sc x && lclB C.sc y && lclB C.sc z && !decide (x = y) && !decide (x = z) && !decide (y = z)) (ob (ixOf C.N x) fun i => ob (ixOf C.N y) fun j => ob (ixOf C.N z) fun k => gd (!C.pin.contains i && !C.pin.contains j && !C.pin.contains k) (ob (v.A C vs) fun is => some (.par [i, j, k] is)))
  | _ => none)
/-- several targets, attributes and items among them -/
def cMs (G : Gt) (v : Cm) (C : Ct) : List Expr → Option (List TGt)
  | [] => some []
  | t :: r => match t with
    | .Attribute o f _ => ob (G.fl.lookup f) fun n => ob (v.E C o) fun i => ob (cMs G v C r) fun l => some (.at_ n i :: l)
    | .Subscript o x _ => gd (noSlice x) (ob (v.E C o) fun i => ob (v.E C x) fun j => ob (cMs G v C r) fun l => some (.sub i j :: l))
    | t => gd (plainG t) (ob (v.G C (List.range C.N.length) t) fun it => ob (cMs G v C r) fun l => some (.nm it :: l))
def cTup (G : Gt) (v : Cm) (C : Ct) (t : Expr) (ts : List Expr) (a : Expr) : Option IS := match ts.all plainG with
  | true => ob (v.G C (List.range C.N.length) t) fun it => ob (v.E C a) fun i => some (.asg it i)
  | false => gd (C.calm && ts.all plainM) (ob (cMs G v C ts) fun l => gd (Nat.beq ts.length l.length) (ob (v.E C a) fun i => some (.asgM l i)))
def cAsg (G : Gt) (v : Cm) (C : Ct) (t a : Expr) : Option IS := match t with
  | .Name x px => cSetN G v C x px a
  | .Tuple ts _ _ => (match a with
    | .Tuple vs _ _ => (match swNo C.sc ts vs || vs.all (foldedForSure 8) with
      | true => cTup G v C t ts a
      | false => cPar v C ts vs)
    | _ => cTup G v C t ts a)
  | .Attribute o f _ => gd (noComp a) (ob (G.fl.lookup f) fun n => ob (v.E C o) fun io => ob (v.E C a) fun i => some (.putA n io i))
  | .Subscript o x _ => gd (noSlice x) (ob (v.E C o) fun io => ob (v.E C x) fun ix => ob (v.E C a) fun i => some (.put io ix i))
  | _ => none
def cRais (G : Gt) (v : Cm) (C : Ct) (e : Expr) : Option IS := ob (callOf e) fun p => match p.2 with
  | [a] => gd (C.calm && plainE a && glB C.sc p.1) (ob (v.E C a) fun i => match G.cl0.lookup p.1 with
    | some j => some (.rais j none i)
    | none => ob (G.cl1.lookup p.1) fun q => some (.rais q.1 (some q.2) i))
  | _ => none
def Ct.suite (C : Ct) (fx : Option (Str × Nat)) (pin : List Nat) : Ct := { C with calm := false, lam := false, ac := none, tr := false, fx := fx, pin := pin, sp := fun _ => none }
def cHs (G : Gt) (v : Cm) (C : Ct) : List ExceptHandler → Option (List IH)
  | [] => some []
  | .ExceptHandler ty nm body _ :: r => ob ty fun t => ob (nmOf t) fun x => gd (glB C.sc x && !body.isEmpty) (ob (G.hn.lookup x) fun j => ob (cHs G v C r) fun ihs => match nm with
    | none => ob (v.Ss (C.suite none []) body) fun is => some (.mk j none is :: ihs)
    | some n => gd (lclB C.sc n && !decide (n = ("__debug__" : Str)) && !decide (n = ("__classdict__" : Str))) (ob (ixOf C.N n) fun i => ob (v.Ss (C.suite (some (n, i)) [i]) body) fun is => some (.mk j (some i) is :: ihs)))
def cS (G : Gt) (v : Cm) (C : Ct) (st : Stmt) : Option IS := match st with
  | .Expr a _ => (match a with
    | .Constant (.str _) _ _ => some .pass
    | a => gd (noComp a) (ob (v.E C a) fun i => some (.ex i)))
  | .Pass _ => some .pass
  | .Break _ => some .brk
  | .Continue _ => some .cnt
  | .Return e _ => (match e with
    | none => some .retN
    | some a => ob (v.E C a) fun i => some (.ret i))
  | .If d a b _ => ob (v.T C d) fun k => ob (v.Ss C a) fun ia => ob (v.Ss C b) fun ib => some (.ite k ia ib)
  | .Assign ts a _ => (match ts with
    | [t] => cAsg G v C t a
    | _ => none)
  | .AugAssign t o a _ => (match t with
    | .Name x _ => ob (ixOf C.N x) fun i => gd (locB C.sc x && (C.fn x || lclB C.sc x) && !C.pin.contains i && (decide (o = .Add) || decide (o = .Sub))) (ob (v.E C a) fun e => some (.aug i o e))
    | _ => none)
  | .For tg iter body orelse _ => gd (C.calm && noSet iter && orelse.isEmpty) (ob (cI G v C tg iter) fun it => ob (v.G C (List.range C.N.length) tg) fun t => ob (v.Ss C body) fun ib => some (.forI t it ib))
  | .While d body orelse _ => gd orelse.isEmpty (ob (v.T C d) fun k => ob (v.Ss C body) fun ib => some (.whl k ib))
  | .Raise e z _ => (match e, z with
    | some e, none => cRais G v C e
    | _, _ => none)
  | .Try body hs orelse fin _ => gd (C.tr && !hs.isEmpty && orelse.isEmpty && fin.isEmpty) (ob (v.Ss C body) fun ib => ob (cHs G v C hs) fun ihs => some (.tryS ib ihs))
  | _ => none
def cSs (v : Cm) (C : Ct) (st : List Stmt) : Option (List IS) := match st with
  | [] => some []
  | a :: r => ob (v.S C a) fun i => ob (v.Ss C r) fun is => some (i :: is)
def wrapS (G : Gt) (st : Stmt) (i : IS) : IS :=
  let i1 := match G.lk.lookup st.pos.line with
    | some n => IS.lock n i
    | none => i
  match G.pn.lookup st.pos.line with
  | some is => .pin is i1
  | none => i1
/-- a statement; one that is not translated stands for what is never reached -/
def cSw (G : Gt) (v : Cm) (C : Ct) (st : Stmt) : Option IS := match cS G v C st with
  | some i => some (wrapS G st i)
  | none => some .bad
def Cm.none : Cm := ⟨fun _ _ => .none, fun _ _ => .none, fun _ _ => .none, fun _ _ => .none, fun _ _ _ => .none, fun _ _ _ => .none, fun _ _ => .none, fun _ _ => .none⟩
def Cm.step (G : Gt) (v : Cm) : Cm := ⟨cE G v, cA v, cT v, cW v, cG v, cGs v, cSw G v, cSs v⟩
def cmN (G : Gt) : Nat → Cm
  | 0 => Cm.none
  | n + 1 => Cm.step G (cmN G n)
end Rf
set_option maxHeartbeats 4000000
namespace Rf
open PySem PySem.Spec PyProof.Rows L2 LamX RfE
/-! ### the text and its data agree -/
/-- a def that calls its thunk -/
structure ThOk (pr : Pr) (g : Gs) (k kr fi : Nat) (x : Str) (P : Program) (w : World) (K : PySem.W.Frag) (mg : Str → Option Value) (base : Heap) : Prop where
  ex : ∃ (pg : Arguments) (bg : List Stmt) (sg : Scope) (dV kV doc pm cdv ct oc : Value) (an od : Option Addr) (osl : Array (Option Value)) (Ng : List Str) (a : Str),
    K.lookup (g.ad fi) = some ⟨oc, od, .func (PySem.W.fnOf x x pg bg sg dV kV doc pm an cdv ct), osl⟩ ∧ PySem.W.codeIn K cdv x = true ∧ L2.Binds K (PySem.W.fnOf x x pg bg sg dV kV doc pm an cdv ct) [a] [] ∧ FnScope Ng [a] sg ∧ Ng[0]? = some a ∧ Vis sg a ∧
    (a == ("__debug__" : Str)) = false ∧ (a == ("__classdict__" : Str)) = false ∧
    ∀ (X : Cx) (qq : Str), X.prog = P → X.w = w → X.K = K → X.mg = mg → X.base = base → X.A.guards = some [] → GivesG X kr Ng x sg (g.ad fi) cdv bg a qq (TTk pr g k fi)
  gm : mg x = some (.ref (g.ad fi))
  kp : PySem.W.keepIn K (.ref (g.ad fi)) = true
mutual
theorem eqI_ok : ∀ (n : Nat) (a b : IE), eqI n a b = true → a = b
  | 0, a, b, h => by simp [eqI] at h
  | n + 1, a, b, h => by
    unfold eqI at h
    split at h
    · rw [Nat.eq_of_beq_eq_true h]
    · rw [Nat.eq_of_beq_eq_true h]
    · rw [Nat.eq_of_beq_eq_true h]
    · rw [eqU_ok _ _ h]
    · rw [Bool.and_eq_true] at h
      rw [Nat.eq_of_beq_eq_true h.1, eqIs_ok n _ _ h.2]
    · cases h
theorem eqIs_ok : ∀ (n : Nat) (a b : List IE), eqIs n a b = true → a = b
  | 0, a, b, h => by simp [eqIs] at h
  | n + 1, a, b, h => by
    unfold eqIs at h
    split at h
    · rfl
    · rw [Bool.and_eq_true] at h
      rw [eqI_ok n _ _ h.1, eqIs_ok n _ _ h.2]
    · cases h
end
/-- a function made of a lambda whose body is known as data: the def j -/
def LSof (G : Gt) (j : Nat) (F : LamD) : Prop := ∃ (n : Nat) (ib : IE), plainArgs F.params = true ∧ NdefX.nscB (F.params.args.map (·.arg)) (F.params.args.map (·.arg)) [] F.scope = true ∧ (cmN G n).E (lmCt F.scope (F.params.args.map (·.arg))) F.body = some ib ∧ (F.params.args.length, ib, j) ∈ G.lams
/-- the module -/
structure MdOk (G : Gt) (pr : Pr) (g : Gs) (k kr : Nat) (P : Program) (w : World) (K : PySem.W.Frag) (mg : Str → Option Value) (base : Heap) : Prop where
  hK : K = g.K
  hP : P = g.P
  hw : w = g.w
  cls : ClsOk pr g G.fl G.mt K
  kwv : ∀ f n y, kwN pr.kws f = some (n, y) → ∃ fd ps, FnG P w K mg base (L2.CX P w) kr (g.ad f) fd ps (spI pr g k f) ∧ KBn K fd ps n [y] (fun us ws => us ++ ws) (fun vs zs => vs ++ zs) ∧ PySem.W.keepIn K (.ref (g.ad f)) = true
  kd : ∀ x f dus, G.kd.lookup x = some (f, dus) → mg x = some (.ref (g.ad f)) ∧ ∃ fd ps ds dvs, FnG P w K mg base (L2.CX P w) kr (g.ad f) fd ps (spI pr g k f) ∧ L2.Binds K fd ps ds ∧ Vals dvs ds ∧ (∀ m H, VRs g m H dus dvs) ∧ PySem.W.keepIn K (.ref (g.ad f)) = true
  cn : ∀ x ci d, G.cn.lookup x = some (ci, d) → mg x = some (.ref (g.cl ci)) ∧ L2.Mk K (g.cl ci) (g.ad d) ∧ d < pr.npos
  fns : ∀ x f, G.fns.lookup x = some f → mg x = some (.ref (g.ad f)) ∧ f < pr.npos
  cal : ∀ f, f < pr.npos → ∃ fd ps, FnG P w K mg base (L2.CX P w) kr (g.ad f) fd ps (spI pr g k f) ∧ L2.Binds K fd ps [] ∧ PySem.W.keepIn K (.ref (g.ad f)) = true
  vals : ∀ x j, G.vals.lookup x = some j → ∃ u v o, pr.gv[j]? = some u ∧ (∀ m H, VR g m H u v) ∧ mg x = some o ∧ RelV v o
  nb : ∀ x, x ∈ G.nb → mg x = none
  cl0 : ∀ x j, G.cl0.lookup x = some j → ∀ Y : Cx, Y.prog = P → Y.w = w → Y.K = K → Y.mg = mg → Y.base = base → Gl Y x → Room kr Y.A → MkPlain Y x (g.cl j)
  cl1 : ∀ x j f, G.cl1.lookup x = some (j, f) → ∀ Y : Cx, Y.prog = P → Y.w = w → Y.K = K → Y.mg = mg → Y.base = base → Gl Y x → Room kr Y.A → MkFld Y x (g.cl j) f
  hn : ∀ x j, G.hn.lookup x = some j → mg x = some (.ref (g.cl j)) ∧ ∀ i, i < pr.ncl → PySem.W.exmOne K (.ref (g.cl i)) (.ref (g.cl j)) = some (pr.sup i j)
  fld : ∀ i f, pr.fld i f = true → FldF K (g.cl i) f
  th : ∀ x f, G.th.lookup x = some f → ThOk pr g k (kr + 1) f x P w K mg base
  kw : ∀ x f n y, G.kw.lookup x = some (f, n, y) → mg x = some (.ref (g.ad f)) ∧ ∃ fd ps, FnG P w K mg base (L2.CX P w) kr (g.ad f) fd ps (spI pr g k f) ∧ KBn K fd ps n [y] (fun us ws => us ++ ws) (fun vs zs => vs ++ zs) ∧ PySem.W.keepIn K (.ref (g.ad f)) = true
  lam : ∀ j F, g.LS j F → FnL P w K mg base (L2.CX P w) kr F (spI pr g k j)
  lmk : ∀ j F, LSof G j F → g.LS j F
structure CfOk (pr : Pr) (k : Nat) (c : Cf) : Prop where
  call : c.call = callF pr k
  gv : c.gv = pr.gv
  has : c.has = fun f => Nat.blt f pr.npos
  sup : c.sup = pr.sup
  fld : c.fld = pr.fld
  ncl : c.ncl = pr.ncl
  cls : c.cls = pr.cls
  kws : c.kws = pr.kws
structure LmOk (pr : Pr) (g : Gs) (k kr : Nat) (X : Cx) (c : Cf) : Prop where
  room : Room (kr + 3) X.A
  thunk : c.thunk = thunkF pr (callF pr k)
  tab : ∃ cA PA, TabB X.base X.mg cA PA ∧ X.env.code = .ref cA ∧ (PA, X.env.qual ++ "<lambda>") ∈ g.T ∧ ∀ p ∈ g.T, p.1 = PA → p.2 = X.env.qual ++ "<lambda>"
structure CtOk (G : Gt) (pr : Pr) (g : Gs) (k kr : Nat) (C : Ct) (X : Cx) (W : WX) (q : Iv g) (c : Cf) (hb : Hbt) : Prop where
  md : MdOk G pr g k kr X.prog X.w X.K X.mg X.base
  cf : CfOk pr k c
  sc : X.env.scope = C.sc
  kd : X.env.scope.kind = .function
  nn : X.N = C.N
  nd : C.N.Nodup
  pin : ∀ p ∈ q.pin, p.1 ∈ C.pin
  cal : C.calm = true → X.calm = true ∧ Room (kr + 1) X.A
  un : X.A.units + 66 < cLine
  gd : X.A.guards = some []
  fn : ∀ x, C.fn x = true → X.fn x = true
  tk : Takes X W
  po : PassesOwn (model X.prog X.w) X.A X.env X.xe
  lam : C.lam = true → LmOk pr g k kr X c
  ac : ∀ a, C.ac = some a → ∀ (W' : WX) (pn : List (Addr × Obj)) (xe : Value → Shared → Prop), Takes (X.tr pn xe) W' → ∀ p p2, NE (X.tr pn xe) g W' q c hb (.Call (.Name a p) [] [] p2) .act
  fx : ∀ nm i, C.fx = some (nm, i) → ∀ f p pos, NE X g W q c hb (.Attribute (.Name nm p) f pos) (.fld f)
  sp : ∀ e i, C.sp e = some i → NE X g W q c hb e i
  tr : C.tr = true → C.fx = none ∧ (∀ e, C.sp e = none) ∧ X.stack = X.env :: X.outer ∧ X.env.frame = some X.env.locals ∧ ∃ cf : List (Str × Uv) → Cf, hb = hbF cf ∧ ∀ fs, CfOk pr k (cf fs) ∧ (cf fs).fs = fs
theorem takes0 {X : Cx} : Takes X W0 := fun u s' ⟨_, _, _, _, _, _, _, _, _, _, _, _, _, _, _, _, w⟩ => w.elim
section
variable {G : Gt} {pr : Pr} {g : Gs} {k kr : Nat} {C : Ct} {X : Cx} {W : WX} {q : Iv g} {c : Cf} {hb : Hbt}
theorem CtOk.hK (O : CtOk G pr g k kr C X W q c hb) : X.K = g.K := O.md.hK
theorem CtOk.hP (O : CtOk G pr g k kr C X W q c hb) : X.prog = g.P := O.md.hP
theorem CtOk.hw (O : CtOk G pr g k kr C X W q c hb) : X.w = g.w := O.md.hw
theorem CtOk.rm (O : CtOk G pr g k kr C X W q c hb) (h : C.calm = true) : Room kr X.A := (O.cal h).2.mono (Nat.le_succ _)
theorem CtOk.u9 (O : CtOk G pr g k kr C X W q c hb) : X.A.units + 9 < cLine := by have := O.un; omega
theorem CtOk.u64 (O : CtOk G pr g k kr C X W q c hb) : X.A.units + 65 < cLine := by have := O.un; omega
theorem CtOk.u1 (O : CtOk G pr g k kr C X W q c hb) : X.A.units + 1 < cLine := by have := O.un; omega
theorem CtOk.nd' (O : CtOk G pr g k kr C X W q c hb) : X.N.Nodup := by rw [O.nn]; exact O.nd
theorem CtOk.ix (O : CtOk G pr g k kr C X W q c hb) {x : Str} {i : Nat} (h : ixOf C.N x = some i) : X.N[i]? = some x := by rw [O.nn]; exact ixOf_get h
theorem CtOk.gl (O : CtOk G pr g k kr C X W q c hb) {x : Str} (h : glB C.sc x = true) : Gl X x ∧ (x == ("__debug__" : Str)) = false := gl_by (by rw [O.sc]; exact h)
theorem CtOk.vis (O : CtOk G pr g k kr C X W q c hb) {x : Str} (h : visB C.sc x = true) : Vis X.env.scope x := by rw [O.sc]; exact vis_by h
theorem CtOk.loc (O : CtOk G pr g k kr C X W q c hb) {x : Str} (h : locB C.sc x = true) : Loc X.env.scope x := by rw [O.sc]; exact loc_by h
theorem CtOk.lcl (O : CtOk G pr g k kr C X W q c hb) {x : Str} (h : lclB C.sc x = true) : X.env.scope.names.lookup x = some .local := by rw [O.sc]; exact lcl_by h
theorem CtOk.fnl (O : CtOk G pr g k kr C X W q c hb) {x : Str} (h : (C.fn x || lclB C.sc x) = true) : X.fn x = true ∨ X.env.scope.names.lookup x = some .local := by
  rw [Bool.or_eq_true] at h
  exact h.imp (O.fn x) O.lcl
theorem CtOk.np (O : CtOk G pr g k kr C X W q c hb) {i : Nat} (h : (!C.pin.contains i) = true) : ∀ p ∈ q.pin, p.1 ≠ i := fun p hp e => by
  have := O.pin p hp
  rw [e] at this
  have h : C.pin.contains i = false := by simpa using h
  rw [List.contains_eq_mem, decide_eq_false_iff_not] at h
  exact h this
theorem CtOk.blk (O : CtOk G pr g k kr C X W q c hb) {scope : Scope} (hk : scope.kind = .function) (s : Shared) (H : Hp) (A : Addr) (cl : List (Str × Addr)) (fp : List Addr) : CtOk G pr g k kr (C.blk scope) (X.blk s H scope (compEnvC scope cl A X.env) fp) W0 q c hb where
  md := O.md
  cf := O.cf
  sc := by rw [show (C.blk scope).sc = relS scope C.sc from rfl, ← O.sc] <;> rfl
  kd := hk
  nn := O.nn
  nd := O.nd
  pin := O.pin
  cal := O.cal
  un := O.un
  gd := O.gd
  fn := fun x h => h
  tk := takes0
  po := PassesOwn.never
  lam := fun h => nomatch h
  ac := fun a h => nomatch h
  fx := fun a i h => nomatch h
  sp := fun e i h => nomatch h
  tr := fun h => nomatch h
theorem CtOk.tr' (O : CtOk G pr g k kr C X W q c hb) (hf : C.fx = none) (hs : ∀ e, C.sp e = none) {W' : WX} {pn : List (Addr × Obj)} {xe : Value → Shared → Prop} (t : Takes (X.tr pn xe) W') (p : PassesOwn (model X.prog X.w) X.A X.env xe) : CtOk G pr g k kr C (X.tr pn xe) W' q c hb where
  md := O.md
  cf := O.cf
  sc := O.sc
  kd := O.kd
  nn := O.nn
  nd := O.nd
  pin := O.pin
  cal := O.cal
  un := O.un
  gd := O.gd
  fn := O.fn
  tk := t
  po := p
  lam := fun h => let l := O.lam h; ⟨l.room, l.thunk, l.tab⟩
  ac := fun a h W2 pn2 xe2 t2 => O.ac a h W2 pn2 xe2 t2
  fx := fun a i h => by rw [hf] at h; cases h
  sp := fun e i h => by rw [hs] at h; cases h
  tr := O.tr
theorem CtOk.lm (O : CtOk G pr g k kr C X W q c hb) {scope : Scope} (hk : scope.kind = .function) {A : Around} {outer : List Env} {s : Shared} {H : Hp} {E : XK} {f c' : Addr} (hr : Room (kr + 1) (A.deeper (lamEnv X scope s.heap.objs.size f c'))) (hA : A.guards = some []) :
    CtOk G pr g k kr (C.lm scope) (lamCx X A outer s H E scope f c') (fun C d _ H' => E C d H') q c hb where
  md := O.md
  cf := O.cf
  sc := rfl
  kd := hk
  nn := O.nn
  nd := O.nd
  pin := O.pin
  cal := fun _ => ⟨rfl, hr⟩
  un := by have := hr.un; show (A.deeper _).units + 66 < _; omega
  gd := hA
  fn := fun x h => nomatch h
  tk := takes_of rfl rfl rfl rfl
  po := passes_of rfl
  lam := fun h => nomatch h
  ac := fun a h => nomatch h
  fx := fun a i h => nomatch h
  sp := fun e i h => nomatch h
  tr := fun h => nomatch h
end
end Rf
set_option maxHeartbeats 4000000
namespace Rf
open PySem PySem.Spec PyProof.Rows L2 LamX RfE
structure CmOk (G : Gt) (pr : Pr) (g : Gs) (k kr : Nat) (v : Cm) : Prop where
  E : ∀ {C e i}, v.E C e = some i → ∀ {X : Cx} {W : WX} {q : Iv g} {c : Cf} {hb : Hbt}, CtOk G pr g k kr C X W q c hb → NE X g W q c hb e i
  A : ∀ {C e i}, v.A C e = some i → ∀ {X : Cx} {W : WX} {q : Iv g} {c : Cf} {hb : Hbt}, CtOk G pr g k kr C X W q c hb → NA X g W q c hb e i
  T : ∀ {C e i}, v.T C e = some i → ∀ {X : Cx} {W : WX} {q : Iv g} {c : Cf} {hb : Hbt}, CtOk G pr g k kr C X W q c hb → NT X g W q c hb e i
  W : ∀ {C e i}, v.W C e = some i → ∀ {X : Cx} {W : WX} {q : Iv g} {c : Cf} {hb : Hbt}, CtOk G pr g k kr C X W q c hb → NW X g W q c hb e i
  Tg : ∀ {C sl e i}, v.G C sl e = some i → ∀ {X : Cx} {W : WX} {q : Iv g} {c : Cf} {hb : Hbt}, CtOk G pr g k kr C X W q c hb → NG X g q sl e i
  Tgs : ∀ {C sl e i}, v.Gs C sl e = some i → ∀ {X : Cx} {W : WX} {q : Iv g} {c : Cf} {hb : Hbt}, CtOk G pr g k kr C X W q c hb → NGs X g q sl e i
  S : ∀ {C e i}, v.S C e = some i → ∀ {X : Cx} {W : WX} {q : Iv g} {c : Cf} {hb : Hbt}, CtOk G pr g k kr C X W q c hb → NS X g W q c hb e i
  Ss : ∀ {C e i}, v.Ss C e = some i → ∀ {X : Cx} {W : WX} {q : Iv g} {c : Cf} {hb : Hbt}, CtOk G pr g k kr C X W q c hb → NSs X g W q c hb e i
section
variable {G : Gt} {pr : Pr} {g : Gs} {k kr : Nat} {C : Ct} {X : Cx} {W : WX} {q : Iv g} {c : Cf} {hb : Hbt} {v : Cm} {i : IE} {pos : Pos}
theorem cConst_ok {x : Const} {y : Nat} (h : cConst x = some i) : NE X g W q c hb (.Constant x y pos) i := by
  unfold cConst at h
  split at h
  · cases h; exact n_non
  · cases h; exact n_bl
  · cases h; exact n_int
  · cases h; exact n_str
  · cases h
theorem nodbg {x : Str} (h : (!decide (x = ("__debug__" : Str)) && !decide (x = ("__classdict__" : Str))) = true) : (x == ("__debug__" : Str)) = false ∧ (x == ("__classdict__" : Str)) = false := by
  simpa using h
theorem cName_ok (O : CtOk G pr g k kr C X W q c hb) {x : Str} (h : cName G C x = some i) : NE X g W q c hb (.Name x pos) i := by
  unfold cName at h
  split at h
  · rename_i hv
    obtain ⟨h1, h⟩ := gd_some h
    obtain ⟨ix, h2, h⟩ := ob_some h
    cases h
    exact n_var (O.ix h2) (O.vis hv) (nodbg h1).1 (nodbg h1).2
  · obtain ⟨h1, h⟩ := gd_some h
    obtain ⟨j, h2, h⟩ := ob_some h
    cases h
    obtain ⟨u, w, o, e1, e2, e3, e4⟩ := O.md.vals x j h2
    exact n_glb (by rw [O.cf.gv]; exact e1) e2 (O.gl h1).1 e3 e4 (O.gl h1).2
theorem cCmp_ok (V : CmOk G pr g k kr v) (O : CtOk G pr g k kr C X W q c hb) {a : Expr} {ops : List CmpOp} {cs : List Expr} (h : cCmp v C a ops cs = some i) : NE X g W q c hb (.Compare a ops cs pos) i ∧ NT X g W q c hb (.Compare a ops cs pos) i := by
  unfold cCmp at h
  split at h
  · obtain ⟨h1, h⟩ := gd_some h
    obtain ⟨ia, ha, h⟩ := ob_some h
    obtain ⟨ib, hb', h⟩ := ob_some h
    cases h
    have h1 := (Bool.not_eq_true' _).mp h1
    exact ⟨n_cmp O.hK O.hP O.hw O.u64 h1 (V.E ha O) (V.E hb' O), nt_cmp O.hK O.hP O.hw O.u64 h1 (V.E ha O) (V.E hb' O)⟩
  · obtain ⟨h1, h⟩ := gd_some h
    obtain ⟨ia, ha, h⟩ := ob_some h
    obtain ⟨ib, hb', h⟩ := ob_some h
    obtain ⟨id, hd, h⟩ := ob_some h
    cases h
    have h1 := (Bool.not_eq_true' _).mp h1
    exact ⟨n_cmp2 O.hK O.hP O.hw O.u64 h1 (V.E ha O) (V.E hb' O) (V.E hd O), nt_cmp2 O.hK O.hP O.hw O.u64 h1 (V.E ha O) (V.E hb' O) (V.E hd O)⟩
  · cases h
theorem cUn_ok (V : CmOk G pr g k kr v) (O : CtOk G pr g k kr C X W q c hb) {o : UnaryOp} {a : Expr} (h : cUn v C o a = some i) : NE X g W q c hb (.UnaryOp o a pos) i := by
  unfold cUn at h
  split at h
  · obtain ⟨ia, ha, h⟩ := ob_some h
    cases h
    exact n_not (V.E ha O)
  · obtain ⟨ia, ha, h⟩ := ob_some h
    cases h
    exact n_neg (V.E ha O)
  · cases h
theorem tailB_inv {o : BoolOp} {i r t : IE} (h : tailB o i r = some t) : ∃ j is, r = .bop o (j :: is) ∧ t = .bop o (i :: j :: is) := by
  unfold tailB at h
  split at h
  · obtain ⟨h1, h⟩ := gd_some h
    rw [decide_eq_true_eq] at h1
    cases h
    exact ⟨_, _, by rw [h1], rfl⟩
  · cases h
theorem cBop_ok (V : CmOk G pr g k kr v) (O : CtOk G pr g k kr C X W q c hb) {o : BoolOp} {es : List Expr} (h : cBop v C o es pos = some i) : NE X g W q c hb (.BoolOp o es pos) i := by
  unfold cBop at h
  split at h
  · cases h
  · obtain ⟨ia, ha, h⟩ := ob_some h
    cases h
    exact n_one (V.E ha O)
  · obtain ⟨ia, ha, h⟩ := ob_some h
    obtain ⟨r, hr, h⟩ := ob_some h
    obtain ⟨j, is, rfl, rfl⟩ := tailB_inv h
    cases o with
    | And => exact n_and (V.E ha O) (V.E hr O)
    | Or => exact n_or (V.E ha O) (V.E hr O)
theorem cOpt_ok (V : CmOk G pr g k kr v) (O : CtOk G pr g k kr C X W q c hb) {e : Option Expr} {i : Option IE} (h : cOpt v C e = some i) : NO X g W q c hb e i := by
  cases e with
  | none =>
    cases h
    trivial
  | some e =>
    obtain ⟨ia, ha, h⟩ := ob_some h
    cases h
    exact V.E ha O
theorem cSub_ok (V : CmOk G pr g k kr v) (O : CtOk G pr g k kr C X W q c hb) {a b : Expr} (h : cSub v C a b = some i) : NE X g W q c hb (.Subscript a b pos) i := by
  unfold cSub at h
  split at h
  · split at h
    · obtain ⟨ia, ha, h⟩ := ob_some h
      obtain ⟨il, hl, h⟩ := ob_some h
      obtain ⟨ih, hh, h⟩ := ob_some h
      cases h
      exact n_slc O.hK (V.E ha O) (cOpt_ok V O hl) (cOpt_ok V O hh)
    · split at h
      · obtain ⟨ia, ha, h⟩ := ob_some h
        cases h
        exact n_rev O.hK (V.E ha O)
      · cases h
  · obtain ⟨h1, h⟩ := gd_some h
    obtain ⟨ia, ha, h⟩ := ob_some h
    obtain ⟨ib, hb', h⟩ := ob_some h
    cases h
    exact n_sub O.hK O.hP O.hw O.u9 h1 (V.E ha O) (V.E hb' O)
theorem cFld_ok (O : CtOk G pr g k kr C X W q c hb) {o : Expr} {f : Str} (h : cFld C o f = some i) : NE X g W q c hb (.Attribute o f pos) i := by
  unfold cFld at h
  split at h
  · obtain ⟨p, hp, h⟩ := ob_some h
    obtain ⟨h1, h⟩ := gd_some h
    rw [decide_eq_true_eq] at h1
    cases h
    subst h1
    exact O.fx p.1 p.2 hp f _ pos
  · cases h
theorem cAtt_ok (V : CmOk G pr g k kr v) (O : CtOk G pr g k kr C X W q c hb) {o : Expr} {f : Str} (h : cAtt G v C o f = some i) : NE X g W q c hb (.Attribute o f pos) i := by
  unfold cAtt at h
  split at h
  · rename_i e
    cases h
    exact cFld_ok O e
  · obtain ⟨h1, h0⟩ := gd_some h
    obtain ⟨n, hn, h2⟩ := ob_some h0
    obtain ⟨ia, ha, h3⟩ := ob_some h2
    cases h3
    exact n_att O.hK O.cf.cls O.md.cls hn h1 (V.E ha O)
theorem callOf_inv {e : Expr} {x : Str} {es : List Expr} (h : callOf e = some (x, es)) : ∃ p p2, e = .Call (.Name x p) es [] p2 := by
  unfold callOf at h
  split at h
  · cases h; exact ⟨_, _, rfl⟩
  · cases h
theorem isTup_inv {e : Expr} (h : isTup e = true) : ∃ ts y p, e = .Tuple ts y p := by
  cases e with
  | Tuple a b c => exact ⟨_, _, _, rfl⟩
  | _ => cases h
theorem cSeq_ok (V : CmOk G pr g k kr v) (O : CtOk G pr g k kr C X W q c hb) {tg e : Expr} {i : II} (h : cSeq v C e = some i) : NI X g W q c hb tg e i := by
  obtain ⟨ia, ha, h⟩ := ob_some h
  cases h
  exact i_seq O.hK (V.E ha O)
theorem cItB_ok (V : CmOk G pr g k kr v) (O : CtOk G pr g k kr C X W q c hb) {tg : Expr} {x : Str} {es : List Expr} {i : II} {p p2 : Pos} (hg : Gl X x) (hm : X.mg x = none) (h : cItB G v C tg x es = some i) : NI X g W q c hb tg (.Call (.Name x p) es [] p2) i := by
  unfold cItB at h
  split at h
  · split at h
    · rename_i hx
      rw [decide_eq_true_eq] at hx
      obtain ⟨h1, h⟩ := gd_some h
      obtain ⟨ia, ha, h⟩ := ob_some h
      cases h
      exact i_rng1 hx hg hm h1 (V.E ha O)
    · obtain ⟨h1, h0⟩ := gd_some h
      clear h
      simp only [Bool.and_eq_true, decide_eq_true_eq] at h1
      obtain ⟨ts, y, p, rfl⟩ := isTup_inv h1.2
      obtain ⟨ia, ha, h⟩ := ob_some h0
      cases h
      exact i_enm O.hK h1.1.1 hg hm h1.1.2 (V.E ha O)
  · split at h
    · rename_i hx
      rw [decide_eq_true_eq] at hx
      obtain ⟨h1, h⟩ := gd_some h
      rw [Bool.and_eq_true] at h1
      obtain ⟨ia, ha, h⟩ := ob_some h
      obtain ⟨ib, hb', h⟩ := ob_some h
      cases h
      exact i_rng2 hx hg hm h1.1 h1.2 (V.E ha O) (V.E hb' O)
    · obtain ⟨h1, h0⟩ := gd_some h
      clear h
      rw [Bool.and_eq_true, Bool.and_eq_true, Bool.and_eq_true, decide_eq_true_eq] at h1
      obtain ⟨⟨⟨c1, c2⟩, c3⟩, c4⟩ := h1
      obtain ⟨ia, ha, h⟩ := ob_some h0
      obtain ⟨ib, hb', h⟩ := ob_some h
      cases h
      cases e : isTup tg with
      | true =>
        obtain ⟨ts, y, p, rfl⟩ := isTup_inv e
        exact i_zp O.hK c1 hg hm c2 c3 (V.E ha O) (V.E hb' O)
      | false =>
        rw [e, Bool.false_or] at c4
        obtain ⟨nm, np, rfl⟩ : ∃ nm np, tg = .Name nm np := by
          cases tg with
          | Name a b => exact ⟨a, b, rfl⟩
          | _ => cases c4
        exact i_zpN O.hK c1 hg hm c2 c3 (V.E ha O) (V.E hb' O)
  · obtain ⟨h1, h0⟩ := gd_some h
    clear h
    simp only [Bool.and_eq_true, decide_eq_true_eq] at h1
    obtain ⟨ia, ha, h⟩ := ob_some h0
    obtain ⟨ib, hb', h⟩ := ob_some h
    obtain ⟨id, hd, h⟩ := ob_some h
    cases h
    exact i_rng3 h1.1.1.1 hg hm h1.1.1.2 h1.1.2 h1.2 (V.E ha O) (V.E hb' O) (V.E hd O)
  · cases h
theorem itemsOf_inv {e a : Expr} {p p2 : Pos} (h : itemsOf e = some (a, p, p2)) : e = .Call (.Attribute a "items" p) [] [] p2 := by
  unfold itemsOf at h
  split at h
  · obtain ⟨h1, h⟩ := gd_some h
    rw [decide_eq_true_eq] at h1
    cases h
    rw [h1]
  · cases h
theorem base_of2 {o : Expr} (h : plainO2 o = true) (m : Str) (env : Env) : attributeBase o m env (eval o env) = eval o env := by
  unfold plainO2 at h
  split at h
  · rfl
  · rfl
  · rfl
  · rfl
  · cases h
theorem cIt2_ok (V : CmOk G pr g k kr v) (O : CtOk G pr g k kr C X W q c hb) {tg e : Expr} {i : II} (h : cIt2 G v C tg e = some i) : NI X g W q c hb tg e i := by
  unfold cIt2 at h
  split at h
  · rename_i p hp
    obtain ⟨a, p1, p2⟩ := p
    have := itemsOf_inv hp
    subst this
    obtain ⟨h1, h0⟩ := gd_some h
    clear h
    simp only [Bool.and_eq_true] at h1
    obtain ⟨ts, y, p, rfl⟩ := isTup_inv h1.1.1
    obtain ⟨ia, ha, h⟩ := ob_some h0
    cases h
    exact i_itms (base_of2 h1.1.2 _ _) h1.2 (V.E ha O)
  · split at h
    · obtain ⟨ia, ha, h⟩ := ob_some h
      cases h
      exact i_keys (V.E ha O)
    · exact cSeq_ok V O h
theorem cI_ok (V : CmOk G pr g k kr v) (O : CtOk G pr g k kr C X W q c hb) {tg e : Expr} {i : II} (h : cI G v C tg e = some i) : NI X g W q c hb tg e i := by
  unfold cI at h
  split at h
  · rename_i x es hc
    obtain ⟨p, p2, rfl⟩ := callOf_inv hc
    split at h
    · obtain ⟨h1, h⟩ := gd_some h
      rw [Bool.and_eq_true, decide_eq_true_eq] at h1
      exact cItB_ok V O (O.gl h1.1).1 (O.md.nb x h1.2) h
    · exact cIt2_ok V O h
  · exact cIt2_ok V O h
theorem cTs_ok (V : CmOk G pr g k kr v) (O : CtOk G pr g k kr C X W q c hb) {es : List Expr} {is : List IE} (h : cTs v C es = some is) : NTs X g W q c hb es is := by
  unfold cTs at h
  split at h
  · cases h; exact ts_nil
  · obtain ⟨ia, ha, h⟩ := ob_some h
    cases h
    exact ts_one (V.T ha O)
  · cases h
/-- the parts of a comprehension -/
theorem cBlk_ok (V : CmOk G pr g k kr v) (O : CtOk G pr g k kr C X W q c hb) {gs : List Comprehension} {scope : Scope} {b : IT × II × List IE × List Nat} (h : cBlk G v C gs scope = some b) :
    ∃ tg iter es, gs = [⟨tg, iter, es, 0⟩] ∧ X.calm = true ∧ BlkOk X.N X.env.scope scope (ownOf C.N scope) ∧ b.2.2.2 = (ownOf C.N scope).map (·.2) ∧ (∀ p ∈ q.pin, p.1 ∉ b.2.2.2) ∧ noSet iter = true ∧ NI X g W q c hb tg iter b.2.1 ∧
      (InB X scope fun Y => NG Y g q b.2.2.2 tg b.1) ∧ (InB X scope fun Y => NTs Y g W0 q c hb es b.2.2.1) ∧ ∀ e i, v.E (C.blk scope) e = some i → InB X scope fun Y => NE Y g W0 q c hb e i := by
  unfold cBlk at h
  split at h
  · rename_i tg iter es z
    obtain ⟨h1, h0⟩ := gd_some h
    clear h
    simp only [Bool.and_eq_true, decide_eq_true_eq] at h1
    obtain ⟨⟨⟨⟨c1, rfl⟩, c2⟩, c3⟩, c4⟩ := h1
    obtain ⟨it, hi, h⟩ := ob_some h0
    clear h0
    obtain ⟨t, ht, h⟩ := ob_some h
    obtain ⟨ifs, hs, h⟩ := ob_some h
    cases h
    have bk := blkOk_by c2
    refine ⟨tg, iter, es, rfl, (O.cal c1).1, by rw [O.nn, O.sc]; exact bk, rfl, fun p hp hm => ?_, c4, cI_ok V O hi, fun s H A cl fp => V.Tg ht (O.blk bk.kind s H A cl fp), fun s H A cl fp => cTs_ok V (O.blk bk.kind s H A cl fp) hs, fun e i he s H A cl fp => V.E he (O.blk bk.kind s H A cl fp)⟩
    have := List.all_eq_true.mp c3 _ (O.pin p hp)
    rw [List.contains_eq_mem] at this
    simp only [Bool.not_eq_true', decide_eq_false_iff_not] at this
    exact this hm
  · cases h
theorem tIx_in {vs l : List Nat} (h : (l.all fun p => vs.contains p) = true) : ∀ i ∈ l, i ∈ vs := fun i hi => by
  have := List.all_eq_true.mp h i hi
  rwa [List.contains_eq_mem, decide_eq_true_eq] at this
/-- the parts of a comprehension of two clauses -/
theorem cBlk2_ok (V : CmOk G pr g k kr v) (O : CtOk G pr g k kr C X W q c hb) {gs : List Comprehension} {scope : Scope} {b : B2} (h : cBlk2 G v C gs scope = some b) :
    ∃ tg iter es tg2 iter2 es2, gs = [⟨tg, iter, es, 0⟩, ⟨tg2, iter2, es2, 0⟩] ∧ X.calm = true ∧ BlkOk X.N X.env.scope scope (ownOf C.N scope) ∧ b.vs = (ownOf C.N scope).map (·.2) ∧ (∀ p ∈ q.pin, p.1 ∉ b.vs) ∧ (∀ i ∈ b.vs2, i ∈ b.vs) ∧ noSet iter = true ∧ noSet iter2 = true ∧ NI X g W q c hb tg iter b.it ∧
      (InB X scope fun Y => NG Y g q b.vs tg b.t) ∧ (InB X scope fun Y => NTs Y g W0 q c hb es b.ifs) ∧ (InB X scope fun Y => NI Y g W0 q c hb tg2 iter2 b.it2) ∧ (InB X scope fun Y => NG Y g q b.vs2 tg2 b.t2) ∧ (InB X scope fun Y => NTs Y g W0 q c hb es2 b.ifs2) ∧ ∀ e i, v.E (C.blk scope) e = some i → InB X scope fun Y => NE Y g W0 q c hb e i := by
  unfold cBlk2 at h
  split at h
  · rename_i tg iter es z tg2 iter2 es2 z2
    obtain ⟨h1, h0⟩ := gd_some h
    clear h
    simp only [Bool.and_eq_true, decide_eq_true_eq] at h1
    obtain ⟨⟨⟨⟨⟨⟨⟨c1, rfl⟩, c2⟩, c3⟩, c4⟩, rfl⟩, c5⟩, c6⟩ := h1
    obtain ⟨it, hi, h⟩ := ob_some h0
    clear h0
    obtain ⟨t, ht, h⟩ := ob_some h
    obtain ⟨ifs, hs, h⟩ := ob_some h
    obtain ⟨it2, hi2, h⟩ := ob_some h
    obtain ⟨t2, ht2, h⟩ := ob_some h
    obtain ⟨ifs2, hs2, h⟩ := ob_some h
    cases h
    have bk := blkOk_by c2
    refine ⟨tg, iter, es, tg2, iter2, es2, rfl, (O.cal c1).1, by rw [O.nn, O.sc]; exact bk, rfl, fun p hp hm => ?_, tIx_in c6, c4, c5, cI_ok V O hi, fun s H A cl fp => V.Tg ht (O.blk bk.kind s H A cl fp), fun s H A cl fp => cTs_ok V (O.blk bk.kind s H A cl fp) hs,
      fun s H A cl fp => cI_ok V (O.blk bk.kind s H A cl fp) hi2, fun s H A cl fp => V.Tg ht2 (O.blk bk.kind s H A cl fp), fun s H A cl fp => cTs_ok V (O.blk bk.kind s H A cl fp) hs2, fun e i he s H A cl fp => V.E he (O.blk bk.kind s H A cl fp)⟩
    have := List.all_eq_true.mp c3 _ (O.pin p hp)
    rw [List.contains_eq_mem] at this
    simp only [Bool.not_eq_true', decide_eq_false_iff_not] at this
    exact this hm
  · cases h
theorem cLc_ok (V : CmOk G pr g k kr v) (O : CtOk G pr g k kr C X W q c hb) {a : Expr} {gs : List Comprehension} {scope : Scope} (h : cLc G v C a gs scope = some i) : NE X g W q c hb (.ListComp a gs scope pos) i := by
  unfold cLc at h
  split at h
  · obtain ⟨b, hb', h⟩ := ob_some h
    obtain ⟨ka, ha, h⟩ := ob_some h
    cases h
    obtain ⟨tg, iter, es, tg2, iter2, es2, rfl, h1, h2, h3, h4, h5, h6, h7, h8, h9, h10, h11, h12, h13, h14⟩ := cBlk2_ok V O hb'
    exact n_lc2 h1 O.nd' h2 h3 h4 h5 h6 h7 h8 h9 h10 h11 h12 h13 (h14 _ _ ha)
  · obtain ⟨b, hb', h⟩ := ob_some h
    obtain ⟨ka, ha, h⟩ := ob_some h
    cases h
    obtain ⟨tg, iter, es, rfl, h1, h2, h3, h4, h5, h6, h7, h8, h9⟩ := cBlk_ok V O hb'
    exact n_lc h1 O.nd' h2 h3 h4 h5 h6 h7 h8 (h9 _ _ ha)
theorem cDc_ok (V : CmOk G pr g k kr v) (O : CtOk G pr g k kr C X W q c hb) {kx a : Expr} {gs : List Comprehension} {scope : Scope} (h : cDc G v C kx a gs scope = some i) : NE X g W q c hb (.DictComp kx a gs scope pos) i := by
  unfold cDc at h
  split at h
  · obtain ⟨b, hb', h⟩ := ob_some h
    obtain ⟨kk, hk, h⟩ := ob_some h
    obtain ⟨ka, ha, h⟩ := ob_some h
    cases h
    obtain ⟨tg, iter, es, tg2, iter2, es2, rfl, h1, h2, h3, h4, h5, h6, h7, h8, h9, h10, h11, h12, h13, h14⟩ := cBlk2_ok V O hb'
    exact n_dc2 O.hK O.hP O.hw O.u9 h1 O.nd' h2 h3 h4 h5 h6 h7 h8 h9 h10 h11 h12 h13 (h14 _ _ hk) (h14 _ _ ha)
  · obtain ⟨b, hb', h⟩ := ob_some h
    obtain ⟨kk, hk, h⟩ := ob_some h
    obtain ⟨ka, ha, h⟩ := ob_some h
    cases h
    obtain ⟨tg, iter, es, rfl, h1, h2, h3, h4, h5, h6, h7, h8, h9⟩ := cBlk_ok V O hb'
    exact n_dc O.hK O.hP O.hw O.u9 h1 O.nd' h2 h3 h4 h5 h6 h7 h8 (h9 _ _ hk) (h9 _ _ ha)
/-! calls -/
theorem tyN_inv {y : Str} {t : Ty} (h : tyN y = some t) : bootBuiltins y = some (.type t.nm) ∧ y ≠ "__name__" := by
  unfold tyN at h
  split at h
  · rename_i e
    obtain ⟨h1, h⟩ := gd_some h
    have h2 := List.find?_some h
    rw [decide_eq_true_eq] at h2
    exact ⟨by rw [h2]; exact e, by simpa using h1⟩
  · cases h
theorem valsOf_inv {e a : Expr} {p p2 : Pos} (h : valsOf e = some (a, p, p2)) : e = .Call (.Attribute a "values" p) [] [] p2 := by
  unfold valsOf at h
  split at h
  · obtain ⟨h1, h⟩ := gd_some h
    rw [decide_eq_true_eq] at h1
    cases h
    rw [h1]
  · cases h
theorem cSp_ok (V : CmOk G pr g k kr v) (O : CtOk G pr g k kr C X W q c hb) {x : Str} {a : Expr} {r : List Expr} {p : Pos} (hp : plainE a = true) (h : cSp G v C x a r = some i) : NE X g W q c hb (.Call (.Name x p) (a :: r) [] pos) i := by
  unfold cSp at h
  split at h
  · split at h
    · rename_i p3 hv
      obtain ⟨b, p1, p2⟩ := p3
      have e := valsOf_inv hv
      subst e
      obtain ⟨h1, h0⟩ := gd_some h
      clear h
      simp only [Bool.and_eq_true, decide_eq_true_eq] at h1
      obtain ⟨⟨⟨⟨⟨c1, c2⟩, c3⟩, c4⟩, c5⟩, c6⟩ := h1
      obtain ⟨ia, ha, h⟩ := ob_some h0
      obtain ⟨h2, h⟩ := gd_some h
      cases h
      exact n_vals O.hK (O.cal c4).1 c1 (O.gl c2).1 (O.md.nb _ c3) c5 c6 h2 (V.E ha O)
    · obtain ⟨⟨y, es⟩, hc, h0⟩ := ob_some h
      clear h
      obtain ⟨p2, qq, rfl⟩ := callOf_inv hc
      dsimp only at h0
      split at h0
      · obtain ⟨h1, h⟩ := gd_some h0
        clear h0
        simp only [Bool.and_eq_true, decide_eq_true_eq] at h1
        obtain ⟨⟨⟨⟨⟨c1, c2⟩, c3⟩, c4⟩, c5⟩, c6⟩ := h1
        obtain ⟨ia, ha, h⟩ := ob_some h
        obtain ⟨h2, h⟩ := gd_some h
        split at h
        · rename_i hx
          simp only [Bool.and_eq_true, decide_eq_true_eq] at hx
          cases h
          exact n_lenK O.hK (O.cal c5).1 hx.1 hx.2 (O.gl c1).1 (O.md.nb _ c3) (O.gl c2).1 (O.md.nb _ c4) c6 h2 (V.E ha O)
        · split at h
          · rename_i hx
            simp only [Bool.and_eq_true, decide_eq_true_eq] at hx
            cases h
            exact n_tupRng (O.cal c5).1 hx.1 hx.2 (O.gl c1).1 (O.md.nb _ c3) (O.gl c2).1 (O.md.nb _ c4) c6 h2 (V.E ha O)
          · cases h
      · cases h0
  · obtain ⟨h1, h⟩ := gd_some h
    rw [decide_eq_true_eq] at h1
    obtain ⟨y, hy, h⟩ := ob_some h
    obtain ⟨h2, h⟩ := gd_some h
    simp only [Bool.and_eq_true, decide_eq_true_eq] at h2
    obtain ⟨⟨⟨c1, c2⟩, c3⟩, c4⟩ := h2
    obtain ⟨t, ht, h⟩ := ob_some h
    obtain ⟨ia, ha, h⟩ := ob_some h
    cases h
    unfold nmOf at hy
    split at hy
    · cases hy
      exact n_isi O.hK h1 (O.gl c1).1 (O.md.nb _ c3) hp (tyN_inv ht).1 (O.gl c2).1 (O.md.nb _ c4) (tyN_inv ht).2 (O.gl c2).2 (V.E ha O)
    · cases hy
  · cases h
theorem find_inv {α : Type} {f : α → Bool} {l : List α} {a : α} (h : l.find? f = some a) : a ∈ l ∧ f a = true := ⟨List.mem_of_find?_eq_some h, List.find?_some h⟩
theorem biF_inv {x : Str} {n : Nat} {b : Bi} (h : biF x n = some b) : biN b = x ∧ b ≠ .lenset ∧ b ≠ .tuprng ∧ b ≠ .dvals := by
  unfold biF at h
  split at h
  · rename_i e
    rw [Bool.and_eq_true, decide_eq_true_eq] at e
    cases h
    exact ⟨e.1.symm, (fun z => nomatch z), (fun z => nomatch z), (fun z => nomatch z)⟩
  · obtain ⟨f1, f2⟩ := find_inv h
    rw [decide_eq_true_eq] at f2
    exact ⟨f2, (fun e => by subst e; revert f1; decide), (fun e => by subst e; revert f1; decide), (fun e => by subst e; revert f1; decide)⟩
theorem cGn_ok (V : CmOk G pr g k kr v) (O : CtOk G pr g k kr C X W q c hb) {x : Str} {a : Expr} {r : List Expr} {p : Pos} (hp : (a :: r).all plainE = true) (h : cGn G v C x (a :: r) = some i) : NE X g W q c hb (.Call (.Name x p) (a :: r) [] pos) i := by
  unfold cGn at h
  split at h
  · rename_i hv
    obtain ⟨h1, h⟩ := gd_some h
    rw [Bool.and_eq_true] at h1
    obtain ⟨ix, h2, h⟩ := ob_some h
    obtain ⟨is, h3, h⟩ := ob_some h
    cases h
    refine n_callv (pr := pr) (k := k) (kr := kr) O.cf.call O.md.lam (fun f hf => ?_) O.tk O.gd (O.rm h1.2) (O.ix h2) (O.vis hv) (nodbg h1.1).1 (nodbg h1.1).2 hp (V.A h3 O)
    rw [O.cf.has] at hf
    exact ⟨0, ⟨O.md.cal f (Nat.blt_eq.mp hf)⟩⟩
  · obtain ⟨h1, h⟩ := gd_some h
    split at h
    · rename_i f hf
      obtain ⟨h2, h⟩ := gd_some h
      obtain ⟨is, h3, h⟩ := ob_some h
      cases h
      obtain ⟨m1, m2⟩ := O.md.fns x f hf
      exact n_call (pr := pr) (k := k) (kr := kr) (np := 0) O.cf.call ⟨O.md.cal f m2⟩ O.tk O.gd (O.rm h2) (O.gl h1).1 m1 (O.gl h1).2 hp (V.A h3 O)
    · split at h
      · rename_i pp hkd
        obtain ⟨f, dus⟩ := pp
        obtain ⟨h2, h⟩ := gd_some h
        obtain ⟨is, h3, h⟩ := ob_some h
        cases h
        obtain ⟨m1, m2⟩ := O.md.kd x f dus hkd
        exact n_calld (pr := pr) (kk := k) (kr := kr) O.cf.call ⟨m2⟩ O.tk O.gd (O.rm h2) (O.gl h1).1 m1 (O.gl h1).2 hp (V.A h3 O)
      split at h
      · rename_i pp hcn
        obtain ⟨ci, d⟩ := pp
        obtain ⟨h2, h⟩ := gd_some h
        obtain ⟨is, h3, h⟩ := ob_some h
        cases h
        obtain ⟨m1, m2, m3⟩ := O.md.cn x ci d hcn
        exact n_new (pr := pr) (kk := k) (kr := kr) (np := 0) O.cf.call m1 m2 ⟨O.md.cal d m3⟩ O.tk O.gd (O.cal h2).2 (O.gl h1).1 (O.gl h1).2 hp (V.A h3 O)
      · obtain ⟨h2, h⟩ := gd_some h
        rw [decide_eq_true_eq] at h2
        obtain ⟨b, h3, h⟩ := ob_some h
        obtain ⟨h4, h⟩ := gd_some h
        obtain ⟨is, h5, h⟩ := ob_some h
        cases h
        obtain ⟨f2, f3, f4, f5⟩ := biF_inv h3
        refine n_bi O.hK O.hP O.hw O.gd O.un (fun hc => ?_) f3 f4 f5 f2.symm (O.gl h1).1 (O.md.nb _ h2) hp (V.A h5 O)
        rw [hc] at h4
        exact (O.cal (by simpa using h4)).1
theorem noArgs_inv {a : Arguments} (h : noArgs a = true) : a = ⟨[], [], none, [], [], none, []⟩ := by
  obtain ⟨a1, a2, a3, a4, a5, a6, a7⟩ := a
  simp only [noArgs, Bool.and_eq_true, List.isEmpty_iff, Option.isNone_iff_eq_none] at h
  obtain ⟨⟨⟨⟨⟨⟨rfl, rfl⟩, rfl⟩, rfl⟩, rfl⟩, rfl⟩, rfl⟩ := h
  rfl
end
end Rf
set_option maxHeartbeats 4000000
namespace Rf
open PySem PySem.Spec PyProof.Rows L2 LamX RfE
section
variable {G : Gt} {pr : Pr} {g : Gs} {k kr : Nat} {C : Ct} {X : Cx} {W : WX} {q : Iv g} {c : Cf} {hb : Hbt} {v : Cm} {i : IE} {pos : Pos}
theorem thk_ok (V : CmOk G pr g k kr v) (O : CtOk G pr g k kr C X W q c hb) {x : Str} {params : Arguments} {body : Expr} {scope : Scope} {lpos p : Pos} {fi : Nat} {ib : IE} (hl : C.lam = true) (hg : glB C.sc x = true) (ha : noArgs params = true) (hs : lamSB C.sc scope = true) (ht : G.th.lookup x = some fi) (hb' : v.E (C.lm scope) body = some ib) :
    NE X g W q c hb (.Call (.Name x p) [.Lambda params body scope lpos] [] pos) (.thk fi ib) := by
  have L := O.lam hl
  have T := O.md.th x fi ht
  obtain ⟨pg, bg, sg, dV, kV, doc, pm, cdv, ct, oc, an, od, osl, Ng, a, e1, e2, e3, e4, e5, e6, e7, e8, e9⟩ := T.ex
  obtain ⟨cA, PA, t1, t2, t3, t4⟩ := L.tab
  have hLS : LamS X.env.scope scope := by rw [O.sc]; exact lamS_by hs
  have hpar := noArgs_inv ha
  subst hpar
  refine n_thk L.thunk fun n => ?_
  exact pe_lamG (O.gl hg).1 T.gm T.kp e1 e2 e3 e4 e5 e6 O.gd (e9 X (X.env.qual ++ "<lambda>") rfl rfl rfl rfl rfl O.gd) t1 t2 t3 t4 L.room hLS rfl (fun _ _ _ _ _ => rfl)
    (fun A outer s H E f c' hr hgd => V.E hb' (O.lm hLS.kind hr hgd) n) (O.gl hg).2 e7 e8
theorem cCallN_ok (V : CmOk G pr g k kr v) (O : CtOk G pr g k kr C X W q c hb) {x : Str} {es : List Expr} {p : Pos} (h : cCallN G v C x es = some i) : NE X g W q c hb (.Call (.Name x p) es [] pos) i := by
  unfold cCallN at h
  split at h
  · obtain ⟨a, ha, h⟩ := ob_some h
    obtain ⟨h1, h⟩ := gd_some h
    rw [decide_eq_true_eq] at h1
    cases h
    subst h1
    exact O.ac a ha W X.pn X.xe O.tk p pos
  · split at h
    · obtain ⟨h1, h⟩ := gd_some h
      simp only [Bool.and_eq_true] at h1
      obtain ⟨⟨⟨c1, c2⟩, c3⟩, c4⟩ := h1
      obtain ⟨fi, hf, h⟩ := ob_some h
      obtain ⟨ib, hib, h⟩ := ob_some h
      cases h
      exact thk_ok V O c1 c2 c3 c4 hf hib
    · obtain ⟨h1, h⟩ := gd_some h
      have h2 := h1
      rw [Bool.and_eq_true] at h2
      split at h
      · rename_i e
        cases h
        exact cSp_ok V O h2.1 e
      · exact cGn_ok V O (by rw [List.all_cons]; exact h1) h
theorem cMt_inv {x : Str} {n : Nat} (h : cMt G C x = some n) : C.calm = true ∧ G.mt.lookup x = some n := by
  unfold cMt at h
  split at h
  · rename_i e
    exact ⟨e, h⟩
  · cases h
theorem cCallM_ok (V : CmOk G pr g k kr v) (O : CtOk G pr g k kr C X W q c hb) {x : Str} {d : Expr} {es : List Expr} {apos : Pos} (h : cCallM G v C d x apos es pos = some i) : NE X g W q c hb (.Call (.Attribute d x apos) es [] pos) i := by
  unfold cCallM at h
  obtain ⟨h1, h⟩ := gd_some h
  rw [Bool.and_eq_true] at h1
  obtain ⟨io, ho, h⟩ := ob_some h
  have F : ∀ f, f < pr.npos → ∃ np, Callee X kr (g.ad f) np (spI pr g k f) := fun f hf => ⟨0, ⟨O.md.cal f hf⟩⟩
  split at h
  · split at h
    · rename_i m hm
      obtain ⟨c1, c2⟩ := cMt_inv hm
      cases h
      exact n_metc0 O.hK O.cf.cls O.cf.call O.md.cls c2 F O.tk O.gd (O.rm c1) h1.1 h1.2 (V.E ho O)
    · obtain ⟨h2, h⟩ := gd_some h
      rw [decide_eq_true_eq] at h2
      cases h
      exact n_pop O.hK h2 h1.1 h1.2 (V.E ho O)
  · obtain ⟨h2, h⟩ := gd_some h
    rw [Bool.and_eq_true, decide_eq_true_eq] at h2
    split at h
    · rename_i m hm
      obtain ⟨c1, c2⟩ := cMt_inv hm
      obtain ⟨is, hs, h⟩ := ob_some h
      cases h
      exact n_metc O.hK O.cf.cls O.cf.call O.md.cls c2 F O.tk O.gd (O.rm c1) h1.1 h1.2 (by rw [List.all_cons]; exact h2.1) h2.2 (V.E ho O) (V.A hs O)
    · obtain ⟨me, hme, h⟩ := ob_some h
      obtain ⟨is, hs, h⟩ := ob_some h
      cases h
      obtain ⟨f1, f2⟩ := find_inv hme
      rw [decide_eq_true_eq] at f2
      exact n_met O.hK O.hP O.hw O.u9 f2.symm h1.1 h1.2 (by rw [List.all_cons]; exact h2.1) h2.2 (fun e => by subst e; revert f1; decide) (V.E ho O) (V.A hs O)
theorem cCall_ok (V : CmOk G pr g k kr v) (O : CtOk G pr g k kr C X W q c hb) {f : Expr} {es : List Expr} {ks : List Keyword} (h : cCall G v C f es ks pos = some i) : NE X g W q c hb (.Call f es ks pos) i := by
  unfold cCall at h
  split at h
  · split at h
    · exact cCallN_ok V O h
    · exact cCallM_ok V O h
    · cases h
  · split at h
    · split at h
      · rename_i hv
        obtain ⟨h1, h0⟩ := gd_some h
        clear h
        simp only [Bool.and_eq_true] at h1
        obtain ⟨⟨⟨⟨d1, d2⟩, c1⟩, c2⟩, c3⟩ := h1
        obtain ⟨ix, h2, h⟩ := ob_some h0
        clear h0
        obtain ⟨is, hi, h⟩ := ob_some h
        obtain ⟨jb, hb', h⟩ := ob_some h
        cases h
        exact n_callvk (pr := pr) (kk := k) (kr := kr) O.cf.call (fun f n e => ⟨O.md.kwv f n _ (by rw [← O.cf.kws]; exact e)⟩) O.tk O.gd (O.rm c1) (O.ix h2) (O.vis hv) (by simpa using d1) (by simpa using d2) (by rw [List.all_cons, c2, c3] <;> rfl) (V.A hi O) (V.E hb' O)
      obtain ⟨h1, h0⟩ := gd_some h
      clear h
      simp only [Bool.and_eq_true] at h1
      obtain ⟨w, hw, h⟩ := ob_some h0
      clear h0
      obtain ⟨h2, h0⟩ := gd_some h
      clear h
      rw [decide_eq_true_eq] at h2
      obtain ⟨is, hi, h⟩ := ob_some h0
      obtain ⟨jb, hb', h⟩ := ob_some h
      cases h
      obtain ⟨f, n, y⟩ := w
      subst h2
      obtain ⟨m1, m2⟩ := O.md.kw _ f n _ hw
      exact n_callk (pr := pr) (kk := k) (kr := kr) O.cf.call ⟨m2⟩ O.tk O.gd (O.rm h1.1.1.1) (O.gl h1.1.1.2).1 m1 (O.gl h1.1.1.2).2 (by rw [List.all_cons, h1.1.2, h1.2] <;> rfl) (V.A hi O) (V.E hb' O)
    · cases h
  · cases h
theorem plainArgs_inv {a : Arguments} (h : plainArgs a = true) : a = ⟨[], a.args, none, [], [], none, []⟩ := by
  obtain ⟨a1, a2, a3, a4, a5, a6, a7⟩ := a
  simp only [plainArgs, Bool.and_eq_true, List.isEmpty_iff, Option.isNone_iff_eq_none] at h
  obtain ⟨⟨⟨⟨⟨rfl, rfl⟩, rfl⟩, rfl⟩, rfl⟩, rfl⟩ := h
  rfl
theorem cLamV_ok (O : CtOk G pr g k kr C X W q c hb) {n : Nat} {params : Arguments} {body : Expr} {scope : Scope} (h : cLamV G (cmN G n) C params body scope = some i) : NE X g W q c hb (.Lambda params body scope pos) i := by
  unfold cLamV at h
  obtain ⟨h1, h⟩ := gd_some h
  obtain ⟨ib, h2, h⟩ := ob_some h
  obtain ⟨p, h3, h⟩ := ob_some h
  cases h
  rw [Bool.and_eq_true, Bool.and_eq_true] at h1
  obtain ⟨⟨c1, c2⟩, c3⟩ := h1
  obtain ⟨f1, f2⟩ := find_inv h3
  rw [Bool.and_eq_true] at f2
  have e1 := Nat.eq_of_beq_eq_true f2.1
  have e2 := eqI_ok _ _ _ f2.2
  obtain ⟨np, ib', j⟩ := p
  dsimp only at e1 e2 f1
  subst e1 e2
  obtain ⟨cA, PA, t1, t2, t3, t4⟩ := (O.lam c1).tab
  have S := NdefX.nscope_by c3
  have hpar := plainArgs_inv c2
  refine n_lamv t1 t2 t3 t4 (by rw [hpar] <;> rfl) (fun y hy e => by have := S.free y hy e; cases this) fun c' => O.md.lmk _ _ ⟨n, _, c2, c3, h2, f1⟩
theorem cE_ok {n : Nat} (hv : v = cmN G n) (V : CmOk G pr g k kr v) (O : CtOk G pr g k kr C X W q c hb) {e : Expr} (h : cE G v C e = some i) : NE X g W q c hb e i := by
  cases e with
  | Constant x y p => exact cConst_ok h
  | Name x p =>
    unfold cE at h
    dsimp only at h
    split at h
    · obtain ⟨h1, h⟩ := gd_some h
      rw [Bool.and_eq_true] at h1
      obtain ⟨ix, h2, h⟩ := ob_some h
      cases h
      exact n_varL (O.ix h2) (O.vis h1.1) (nodbg h1.2).1 (nodbg h1.2).2
    · exact cName_ok O h
  | BinOp a o b p =>
    obtain ⟨ia, ha, h⟩ := ob_some h
    obtain ⟨ib, hb', h⟩ := ob_some h
    cases h
    exact n_bin O.hK (V.E ha O) (V.E hb' O)
  | Compare a ops cs p => exact (cCmp_ok V O h).1
  | UnaryOp o a p => exact cUn_ok V O h
  | IfExp t a b p =>
    obtain ⟨it, ht, h⟩ := ob_some h
    obtain ⟨ia, ha, h⟩ := ob_some h
    obtain ⟨ib, hb', h⟩ := ob_some h
    cases h
    exact n_ite (V.T ht O) (V.E ha O) (V.E hb' O)
  | BoolOp o es p => exact cBop_ok V O h
  | Tuple es y p =>
    obtain ⟨is, hs, h⟩ := ob_some h
    cases h
    exact n_tup (V.A hs O)
  | List es p =>
    obtain ⟨is, hs, h⟩ := ob_some h
    cases h
    exact n_lst (V.A hs O)
  | Subscript a b p => exact cSub_ok V O h
  | Call f es ks p =>
    unfold cE at h
    dsimp only at h
    split at h
    · rename_i e
      cases h
      exact O.sp _ _ e
    obtain ⟨j, hj, h⟩ := ob_some h
    cases h
    have z := cCall_ok (pos := p) V O hj
    unfold wrapI
    split
    · exact n_lazy z
    · split
      · exact n_mrg z
      · exact z
  | Attribute o f p => exact cAtt_ok V O h
  | ListComp a gs sc p => exact cLc_ok V O h
  | Lambda params body sc p =>
    subst hv
    exact cLamV_ok O h
  | DictComp kx a gs sc p => exact cDc_ok V O h
  | Dict ks vs p =>
    unfold cE at h
    dsimp only at h
    split at h
    · cases h; exact n_dnil
    · obtain ⟨ia, ha, h⟩ := ob_some h
      obtain ⟨ib, hb', h⟩ := ob_some h
      cases h
      exact n_dlit O.hK O.hP O.hw O.u9 (V.E ha O) (V.E hb' O)
    · cases h
  | _ => cases h
theorem cA_ok (V : CmOk G pr g k kr v) (O : CtOk G pr g k kr C X W q c hb) {es : List Expr} {is : List IE} (h : cA v C es = some is) : NA X g W q c hb es is := by
  unfold cA at h
  split at h
  · cases h; exact na_nil
  · split at h
    · obtain ⟨h1, h⟩ := gd_some h
      obtain ⟨ia, ha, h⟩ := ob_some h
      obtain ⟨ir, hr, h⟩ := ob_some h
      cases h
      exact na_star O.hK (O.cal h1).1 (V.E ha O) (V.A hr O)
    · obtain ⟨h1, h⟩ := gd_some h
      obtain ⟨ia, ha, h⟩ := ob_some h
      obtain ⟨h2, h⟩ := gd_some h
      obtain ⟨ir, hr, h⟩ := ob_some h
      cases h
      exact na_cons h1 h2 (V.E ha O) (V.A hr O)
theorem cW_ok (V : CmOk G pr g k kr v) (O : CtOk G pr g k kr C X W q c hb) {e : Expr} (h : cW v C e = some i) : NW X g W q c hb e i := by
  unfold cW at h
  split at h
  · split at h
    · cases h
    · rename_i o _ p a
      obtain ⟨ia, ha, h⟩ := ob_some h
      cases h
      cases o with
      | And => exact nw_and1 (V.T ha O)
      | Or => exact nw_or1 (V.T ha O)
    · rename_i o _ p a b r
      obtain ⟨ia, ha, h⟩ := ob_some h
      obtain ⟨t, ht, h⟩ := ob_some h
      obtain ⟨j, is, rfl, rfl⟩ := tailB_inv h
      cases o with
      | And => exact nw_and (V.T ha O) (V.W ht O)
      | Or => exact nw_or (V.T ha O) (V.W ht O)
  · cases h
theorem cT_ok (V : CmOk G pr g k kr v) (O : CtOk G pr g k kr C X W q c hb) {e : Expr} (h : cT v C e = some i) : NT X g W q c hb e i := by
  unfold cT at h
  split at h
  · exact (V.W h O).nt
  · exact (cCmp_ok V O h).2
  · obtain ⟨ia, ha, h⟩ := ob_some h
    cases h
    exact nt_not (V.T ha O)
  · obtain ⟨h1, h⟩ := gd_some h
    obtain ⟨ia, ha, h⟩ := ob_some h
    obtain ⟨h2, h⟩ := gd_some h
    cases h
    exact nt_val O.hK h1 h2 (V.E ha O)
theorem cG_ok (V : CmOk G pr g k kr v) (O : CtOk G pr g k kr C X W q c hb) {sl : List Nat} {e : Expr} {t : IT} (h : cG v C sl e = some t) : NG X g q sl e t := by
  unfold cG at h
  split at h
  · obtain ⟨ix, h1, h⟩ := ob_some h
    obtain ⟨h2, h⟩ := gd_some h
    simp only [Bool.and_eq_true] at h2
    obtain ⟨⟨⟨c1, c2⟩, c3⟩, c4⟩ := h2
    cases h
    rw [List.contains_eq_mem, decide_eq_true_eq] at c1
    exact g_name c1 O.nd' (O.ix h1) (O.loc c2) (O.fnl c3) (O.np c4)
  · obtain ⟨h1, h⟩ := gd_some h
    rw [Bool.and_eq_true] at h1
    obtain ⟨is, h2, h⟩ := ob_some h
    obtain ⟨h3, h⟩ := gd_some h
    cases h
    exact g_tup O.hK (O.cal h1.1).1 h1.2 (beq_iff_eq.mp h3) (V.Tgs h2 O)
  · cases h
theorem cGs_ok (V : CmOk G pr g k kr v) (O : CtOk G pr g k kr C X W q c hb) {sl : List Nat} {e : List Expr} {t : List IT} (h : cGs v C sl e = some t) : NGs X g q sl e t := by
  unfold cGs at h
  split at h
  · cases h; exact gs_nil
  · obtain ⟨h1, h⟩ := gd_some h
    obtain ⟨ia, ha, h⟩ := ob_some h
    obtain ⟨ir, hr, h⟩ := ob_some h
    cases h
    exact gs_cons h1 (V.Tg ha O) (V.Tgs hr O)
/-! statements -/
theorem blockKind_fn {env : Env} (h : env.scope.kind = .function) : env.blockKind = .function := by
  unfold Env.blockKind
  rw [h]; rfl
theorem lclB_eq {env : Env} {x : Str} : lclB env.scope x = (env.kindOf x == some .local) := by
  unfold lclB Env.kindOf
  split
  · rename_i e; rw [e]; rfl
  · rename_i n
    cases e : List.lookup x env.scope.names with
    | none => rfl
    | some kd => cases kd <;> first | rfl | exact (n e).elim
theorem swB_ok {env : Env} (hk : env.scope.kind = .function) (a : Expr) (x : Str) (px : Pos) (l : Nat) : swapsWith a (some (.Name x px)) l env = pure (swB env.scope a x px) := by
  unfold swapsWith swB
  rw [blockKind_fn hk, lclB_eq]
  cases a <;> rfl
theorem sw_eq {env : Env} (hk : env.blockKind = .function) (ts vs : List Expr) (y y2 : Nat) (p p2 : Pos) : swappedStores [.Tuple ts y p] (.Tuple vs y2 p2) env =
   if swNo env.scope ts vs = true then pure none else if vs.all (foldedForSure 8) = true then pure none else if vs.all (constantsAlone 8) = true then (unsupported "assign.tuple-of-constant-expressions:order-of-the-stores" : Sem Unit) >>= fun _ => pure (some (swN env.scope ts)) else pure (some (swN env.scope ts)) := by
  unfold swappedStores swNo
  rw [hk]
  simp only [pure_bind]
  generalize e : List.filterMap _ ts = L
  generalize e3 : List.any vs _ = b3
  have e2 : swN env.scope ts = L := by
    rw [← e]
    unfold swN
    congr 1
    all_goals (funext x; cases x <;> rfl)
  have e4 : vs.any isStar = b3 := by
    rw [← e3]
    congr 1
    all_goals (funext x; cases x <;> rfl)
  rw [e2, e4]
  generalize (!(ts.length == 2 || ts.length == 3)) = b1
  generalize (vs.length != ts.length) = b2
  generalize (L.length != ts.length) = b4
  generalize (L.eraseDups.length != L.length) = b5
  generalize vs.all (foldedForSure 8) = b6
  generalize vs.all (constantsAlone 8) = b7
  cases b1 <;> cases b2 <;> cases b3 <;> cases b4 <;> cases b5 <;> cases b6 <;> cases b7 <;> rfl
theorem swNo_ok {env : Env} (hk : env.blockKind = .function) {ts vs : List Expr} {y y2 : Nat} {p p2 : Pos} (h : (swNo env.scope ts vs || vs.all (foldedForSure 8)) = true) : swappedStores [.Tuple ts y p] (.Tuple vs y2 p2) env = pure none := by
  rw [sw_eq hk]
  by_cases h1 : swNo env.scope ts vs = true
  · rw [if_pos h1]
  · rw [if_neg h1, if_pos]
    cases h2 : swNo env.scope ts vs
    · rw [h2] at h
      exact h
    · exact absurd h2 h1
theorem swOk_ok {env : Env} (hk : env.blockKind = .function) {ts vs : List Expr} {y y2 : Nat} {p p2 : Pos} (h : swOk env.scope ts vs = true) : swappedStores [.Tuple ts y p] (.Tuple vs y2 p2) env = pure (some (swN env.scope ts)) := by
  rw [sw_eq hk]
  unfold swOk at h
  unfold swNo
  simp only [Bool.and_eq_true, Bool.not_eq_true', beq_iff_eq] at h
  obtain ⟨⟨⟨⟨⟨⟨h1, h2⟩, h3⟩, h4⟩, h5⟩, h6⟩, h7⟩ := h
  rw [h1, h3, h6, h7]
  simp [h2, h4, h5]
theorem cSetN_ok (V : CmOk G pr g k kr v) (O : CtOk G pr g k kr C X W q c hb) {x : Str} {px : Pos} {a : Expr} {i : IS} (h : cSetN G v C x px a = some i) : NS X g W q c hb (.Assign [.Name x px] a pos) i := by
  obtain ⟨ix, h1, h⟩ := ob_some h
  obtain ⟨h2, h⟩ := gd_some h
  simp only [Bool.and_eq_true] at h2
  obtain ⟨⟨c1, c2⟩, c3⟩ := h2
  have sw := swB_ok O.kd a x px pos.line
  rw [O.sc] at sw
  split at h
  · rename_i e
    obtain ⟨ia, ha, h⟩ := ob_some h
    cases h
    rw [e] at sw
    exact s_asg O.nd' (O.ix h1) (O.loc c1) (O.fnl c2) (O.np c3) sw (V.E ha O)
  · rename_i e
    rw [e] at sw
    split at h
    · rename_i elt gs scope p2
      obtain ⟨ia, ha, h⟩ := ob_some h
      cases h
      have hl : lclB C.sc x = true := by
        unfold swB at e
        simp only [Bool.and_eq_true] at e
        exact e.1.1
      unfold cLc at ha
      split at ha
      · obtain ⟨b, hb', h⟩ := ob_some ha
        obtain ⟨ka, hka, h⟩ := ob_some h
        cases h
        obtain ⟨tg, iter, es, tg2, iter2, es2, rfl, h1', h2, h3, h4, h5, h6, h7, h8, h9, h10, h11, h12, h13, h14⟩ := cBlk2_ok V O hb'
        exact s_setLc2 h1' O.nd' (O.ix h1) (O.lcl hl) sw (O.np c3) h2 h3 h4 h5 h6 h7 h8 h9 h10 h11 h12 h13 (h14 _ _ hka)
      · obtain ⟨b, hb', h⟩ := ob_some ha
        obtain ⟨ka, hka, h⟩ := ob_some h
        cases h
        obtain ⟨tg, iter, es, rfl, h1', h2, h3, h4, h5, h6, h7, h8, h9⟩ := cBlk_ok V O hb'
        exact s_setLc h1' O.nd' (O.ix h1) (O.lcl hl) sw (O.np c3) h2 h3 h4 h5 h6 h7 h8 (h9 _ _ hka)
    · rename_i kx elt gs scope p2
      obtain ⟨ia, ha, h⟩ := ob_some h
      cases h
      have hl : lclB C.sc x = true := by
        unfold swB at e
        simp only [Bool.and_eq_true] at e
        exact e.1.1
      unfold cDc at ha
      split at ha
      · obtain ⟨b, hb', h⟩ := ob_some ha
        obtain ⟨kk, hkk, h⟩ := ob_some h
        obtain ⟨ka, hka, h⟩ := ob_some h
        cases h
        obtain ⟨tg, iter, es, tg2, iter2, es2, rfl, h1', h2, h3, h4, h5, h6, h7, h8, h9, h10, h11, h12, h13, h14⟩ := cBlk2_ok V O hb'
        exact s_setDc2 O.hK O.hP O.hw O.u9 h1' O.nd' (O.ix h1) (O.lcl hl) sw (O.np c3) h2 h3 h4 h5 h6 h7 h8 h9 h10 h11 h12 h13 (h14 _ _ hkk) (h14 _ _ hka)
      · obtain ⟨b, hb', h⟩ := ob_some ha
        obtain ⟨kk, hkk, h⟩ := ob_some h
        obtain ⟨ka, hka, h⟩ := ob_some h
        cases h
        obtain ⟨tg, iter, es, rfl, h1', h2, h3, h4, h5, h6, h7, h8, h9⟩ := cBlk_ok V O hb'
        exact s_setDc O.hK O.hP O.hw O.u9 h1' O.nd' (O.ix h1) (O.lcl hl) sw (O.np c3) h2 h3 h4 h5 h6 h7 h8 (h9 _ _ hkk) (h9 _ _ hka)
    · cases h
theorem ixOf_ne {N : List Str} {x y : Str} {i j : Nat} (hx : ixOf N x = some i) (hy : ixOf N y = some j) (h : x ≠ y) : i ≠ j := fun e => by
  subst e
  have := (ixOf_get hx).symm.trans (ixOf_get hy)
  exact h (Option.some.inj this)
theorem swN2 {sc : Scope} {x y : Str} {px py : Pos} (h : ((swN sc [.Name x px, .Name y py]).length == 2) = true) : swN sc [.Name x px, .Name y py] = [x, y] := by
  revert h
  simp only [swN, List.filterMap_cons, List.filterMap_nil]
  split <;> split <;> intro h
  all_goals (first | (simp at h; done) | skip)
  all_goals simp_all
theorem swN3 {sc : Scope} {x y z : Str} {px py pz : Pos} (h : ((swN sc [.Name x px, .Name y py, .Name z pz]).length == 3) = true) : swN sc [.Name x px, .Name y py, .Name z pz] = [x, y, z] := by
  revert h
  simp only [swN, List.filterMap_cons, List.filterMap_nil]
  split <;> split <;> split <;> intro h
  all_goals (first | (simp at h; done) | skip)
  all_goals simp_all
theorem cPar_ok (V : CmOk G pr g k kr v) (O : CtOk G pr g k kr C X W q c hb) {ts vs : List Expr} {i : IS} {y y2 : Nat} {p p2 : Pos} (h : cPar v C ts vs = some i) : NS X g W q c hb (.Assign [.Tuple ts y p] (.Tuple vs y2 p2) pos) i := by
  obtain ⟨h1, h⟩ := gd_some h
  rw [Bool.and_eq_true] at h1
  obtain ⟨hc, hs⟩ := h1
  have sw := swOk_ok (y := y) (y2 := y2) (p := p) (p2 := p2) (blockKind_fn O.kd) (by rw [O.sc]; exact hs)
  rw [O.sc] at sw
  have hs2 := hs
  unfold swOk at hs2
  simp only [Bool.and_eq_true] at hs2
  obtain ⟨⟨⟨⟨⟨⟨_, hl⟩, _⟩, hn⟩, _⟩, _⟩, _⟩ := hs2
  split at h
  · rename_i x1 px1 x2 px2
    rw [swN2 hn] at sw
    obtain ⟨h2, h⟩ := gd_some h
    simp only [Bool.and_eq_true, Bool.not_eq_true', decide_eq_false_iff_not] at h2
    obtain ⟨⟨c1, c2⟩, c3⟩ := h2
    obtain ⟨i1, e1, h⟩ := ob_some h
    obtain ⟨i2, e2, h⟩ := ob_some h
    obtain ⟨h3, h⟩ := gd_some h
    rw [Bool.and_eq_true] at h3
    obtain ⟨is, e3, h⟩ := ob_some h
    cases h
    obtain ⟨a, b, rfl⟩ : ∃ a b, vs = [a, b] := by
      match vs, hl with
      | [a, b], _ => exact ⟨a, b, rfl⟩
    exact s_par2 (O.cal hc).1 O.nd' (O.ix e1) (O.ix e2) (ixOf_ne e1 e2 c3) (O.lcl c1) (O.lcl c2) (fun p hp => ⟨O.np h3.1 p hp, O.np h3.2 p hp⟩) sw (V.A e3 O)
  · rename_i x1 px1 x2 px2 x3 px3
    rw [swN3 hn] at sw
    obtain ⟨h2, h⟩ := gd_some h
    simp only [Bool.and_eq_true, Bool.not_eq_true', decide_eq_false_iff_not] at h2
    obtain ⟨⟨⟨⟨⟨c1, c2⟩, c3⟩, c4⟩, c5⟩, c6⟩ := h2
    obtain ⟨i1, e1, h⟩ := ob_some h
    obtain ⟨i2, e2, h⟩ := ob_some h
    obtain ⟨i3, e3, h⟩ := ob_some h
    obtain ⟨h3, h⟩ := gd_some h
    simp only [Bool.and_eq_true] at h3
    obtain ⟨is, e4, h⟩ := ob_some h
    cases h
    obtain ⟨a, b, d, rfl⟩ : ∃ a b d, vs = [a, b, d] := by
      match vs, hl with
      | [a, b, d], _ => exact ⟨a, b, d, rfl⟩
    exact s_par3 (O.cal hc).1 O.nd' (O.ix e1) (O.ix e2) (O.ix e3) (ixOf_ne e1 e2 c4) (ixOf_ne e1 e3 c5) (ixOf_ne e2 e3 c6) (O.lcl c1) (O.lcl c2) (O.lcl c3) (fun p hp => ⟨O.np h3.1.1 p hp, O.np h3.1.2 p hp, O.np h3.2 p hp⟩) sw (V.A e4 O)
  · cases h
theorem notup_sw {env : Env} {ts : List Expr} {y : Nat} {p : Pos} {a : Expr} (h : isTup a = false) : swappedStores [.Tuple ts y p] a env = pure none := by
  cases a <;> first | rfl | cases h
theorem cMs_ok (V : CmOk G pr g k kr v) (O : CtOk G pr g k kr C X W q c hb) : ∀ {ts : List Expr} {l : List TGt}, cMs G v C ts = some l → NM X g W q c hb ts l
  | [], l, h => by
    cases h
    exact gm_nil
  | t :: r, l, h => by
    unfold cMs at h
    split at h
    · obtain ⟨n, hn, h⟩ := ob_some h
      obtain ⟨ia, ha, h⟩ := ob_some h
      obtain ⟨lr, hl, h⟩ := ob_some h
      cases h
      exact gm_at O.hK O.cf.cls O.md.cls hn (V.E ha O) (cMs_ok V O hl)
    · obtain ⟨h1, h⟩ := gd_some h
      obtain ⟨ia, ha, h⟩ := ob_some h
      obtain ⟨ja, hj, h⟩ := ob_some h
      obtain ⟨lr, hl, h⟩ := ob_some h
      cases h
      exact gm_sub O.hK O.hP O.hw O.u9 h1 (V.E ha O) (V.E hj O) (cMs_ok V O hl)
    · obtain ⟨h1, h⟩ := gd_some h
      obtain ⟨it, ht, h⟩ := ob_some h
      obtain ⟨lr, hl, h⟩ := ob_some h
      cases h
      exact gm_nm h1 (V.Tg ht O) (cMs_ok V O hl)
theorem cTup_ok (V : CmOk G pr g k kr v) (O : CtOk G pr g k kr C X W q c hb) {ts : List Expr} {a : Expr} {y : Nat} {p : Pos} {i : IS} (sw : swappedStores [.Tuple ts y p] a X.env = pure none) (h : cTup G v C (.Tuple ts y p) ts a = some i) : NS X g W q c hb (.Assign [.Tuple ts y p] a pos) i := by
  unfold cTup at h
  split at h
  · obtain ⟨it, ht, h⟩ := ob_some h
    obtain ⟨ia, ha, h⟩ := ob_some h
    cases h
    exact s_asgT sw (V.Tg ht O) (V.E ha O)
  · obtain ⟨h1, h⟩ := gd_some h
    rw [Bool.and_eq_true] at h1
    obtain ⟨l, hl, h⟩ := ob_some h
    obtain ⟨h2, h⟩ := gd_some h
    obtain ⟨ia, ha, h⟩ := ob_some h
    cases h
    exact s_asgM O.hK (O.cal h1.1).1 h1.2 (Nat.eq_of_beq_eq_true h2) sw (cMs_ok V O hl) (V.E ha O)
theorem cAsg_ok (V : CmOk G pr g k kr v) (O : CtOk G pr g k kr C X W q c hb) {t a : Expr} {i : IS} (h : cAsg G v C t a = some i) : NS X g W q c hb (.Assign [t] a pos) i := by
  unfold cAsg at h
  split at h
  · exact cSetN_ok V O h
  · split at h
    · split at h
      · rename_i e
        exact cTup_ok V O (swNo_ok (blockKind_fn O.kd) (by rw [O.sc]; exact e)) h
      · exact cPar_ok V O h
    · rename_i n
      refine cTup_ok V O (notup_sw ?_) h
      cases a <;> first | rfl | exact (n _ _ _ rfl).elim
  · obtain ⟨h1, h⟩ := gd_some h
    obtain ⟨n, hn, h⟩ := ob_some h
    obtain ⟨io, ho, h⟩ := ob_some h
    obtain ⟨ia, ha, h⟩ := ob_some h
    cases h
    exact s_putA O.hK O.cf.cls O.md.cls hn h1 (V.E ho O) (V.E ha O)
  · obtain ⟨h1, h⟩ := gd_some h
    obtain ⟨io, ho, h⟩ := ob_some h
    obtain ⟨ix, hx, h⟩ := ob_some h
    obtain ⟨ia, ha, h⟩ := ob_some h
    cases h
    exact s_put O.hK O.hP O.hw O.u9 h1 (V.E ho O) (V.E hx O) (V.E ha O)
  · cases h
theorem cRais_ok (V : CmOk G pr g k kr v) (O : CtOk G pr g k kr C X W q c hb) {e : Expr} {i : IS} (h : cRais G v C e = some i) : NS X g W q c hb (.Raise (some e) none pos) i := by
  obtain ⟨⟨x, es⟩, h1, h0⟩ := ob_some h
  clear h
  obtain ⟨p, p2, rfl⟩ := callOf_inv h1
  dsimp only at h0
  split at h0
  · obtain ⟨h2, h⟩ := gd_some h0
    clear h0
    simp only [Bool.and_eq_true] at h2
    obtain ⟨⟨c1, c2⟩, c3⟩ := h2
    obtain ⟨ia, ha, h⟩ := ob_some h
    split at h
    · rename_i j hj
      cases h
      exact s_raise0 (O.cal c1).1 O.tk (O.md.cl0 x j hj X rfl rfl rfl rfl rfl (O.gl c3).1 (O.rm c1)) c2 (V.E ha O)
    · obtain ⟨⟨j, f⟩, hj, h⟩ := ob_some h
      cases h
      exact s_raise1 (O.cal c1).1 O.tk (O.md.cl1 x j f hj X rfl rfl rfl rfl rfl (O.gl c3).1 (O.rm c1)) c2 (V.E ha O)
  · cases h0
theorem CtOk.su (O : CtOk G pr g k kr C X W q c hb) {a : Addr} {pn : List (Addr × Obj)} {fx : Option (Str × Nat)} {pin : List Nat} {q' : Iv g} {c' : Cf} (hc : CfOk pr k c') (hp : ∀ p ∈ q'.pin, p.1 ∈ pin)
    (hf : ∀ nm i, fx = some (nm, i) → ∀ f p pos, NE (X.suite a pn) g W0 q' c' noHb (.Attribute (.Name nm p) f pos) (.fld f)) : CtOk G pr g k kr (C.suite fx pin) (X.suite a pn) W0 q' c' noHb where
  md := O.md
  cf := hc
  sc := O.sc
  kd := O.kd
  nn := O.nn
  nd := O.nd
  pin := hp
  cal := fun h => nomatch h
  un := O.un
  gd := O.gd
  fn := O.fn
  tk := takes0
  po := PassesOwn.never
  lam := fun h => nomatch h
  ac := fun a h => nomatch h
  fx := hf
  sp := fun e i h => nomatch h
  tr := fun h => nomatch h
theorem lookup_mem {fs : List (Str × Uv)} {f : Str} {u : Uv} (h : fs.lookup f = some u) : (f, u) ∈ fs := PySem.mem_of_lookup h
theorem cHs_ok (V : CmOk G pr g k kr v) (O : CtOk G pr g k kr C X W q c hb) {cf : List (Str × Uv) → Cf} (hcf : ∀ fs, CfOk pr k (cf fs) ∧ (cf fs).fs = fs) : ∀ {hs : List ExceptHandler} {ihs : List IH}, cHs G v C hs = some ihs → HsN X g c cf hs ihs
  | [], ihs, h => by
    cases h
    exact .nil
  | .ExceptHandler ty nm body p :: r, ihs, h => by
    unfold cHs at h
    obtain ⟨t, h1, h⟩ := ob_some h
    obtain ⟨x, h2, h⟩ := ob_some h
    obtain ⟨h3, h⟩ := gd_some h
    rw [Bool.and_eq_true] at h3
    obtain ⟨j, h4, h⟩ := ob_some h
    obtain ⟨irs, h5, hh⟩ := ob_some h
    have R := cHs_ok V O hcf h5
    subst h1
    obtain ⟨np, rfl⟩ : ∃ np, t = .Name x np := by
      unfold nmOf at h2
      split at h2
      · cases h2; exact ⟨_, rfl⟩
      · cases h2
    obtain ⟨hm, hex⟩ := O.md.hn x j h4
    have hN : Names X x (.ref (g.cl j)) := ⟨(O.gl h3.1).1, (O.gl h3.1).2, .inl hm⟩
    have hex' : ∀ i, i < c.ncl → PySem.W.exmOne X.K (.ref (g.cl i)) (.ref (g.cl j)) = some (c.sup i j) := fun i hi => by
      rw [O.cf.ncl] at hi
      rw [O.cf.sup]
      exact hex i hi
    obtain ⟨b₀, suite, rfl⟩ : ∃ b₀ suite, body = b₀ :: suite := by
      cases body with
      | nil => cases h3.2
      | cons a b => exact ⟨a, b, rfl⟩
    cases nm with
    | none =>
      obtain ⟨is, h6, hh⟩ := ob_some hh
      cases hh
      exact .cons0 hN hex' (fun a oe cls d pn hz hf => V.Ss h6 (O.su (hcf []).1 (fun p hp => nomatch hp) (fun nm i h => nomatch h))) R
    | some n =>
      obtain ⟨h6, hh⟩ := gd_some hh
      rw [Bool.and_assoc, Bool.and_eq_true] at h6
      obtain ⟨ix, h7, hh⟩ := ob_some hh
      obtain ⟨is, h8, hh⟩ := ob_some hh
      cases hh
      refine .cons1 O.nd' (O.ix h7) (O.lcl h6.1) hN hex' (fun a oe d pn kk fs hk hsup hfs hz hf => V.Ss h8 (O.su (hcf fs).1 (fun p hp => ?_) (fun nm i e f p pos => ?_))) R
      · rw [show p = (ix, a) from by simpa [qx] using hp]
        exact List.mem_cons_self
      · cases e
        cases el : fs.lookup f with
        | none =>
          refine .mk fun n' => ⟨fun pins s σ H Q I ⟨m, z, h, A, S⟩ => ?_⟩
          simp only [stepE, (hcf fs).2, el] at S
          exact S.no.elim
        | some u =>
          have hfl : pr.fld kk f = true := by
            have := hfs _ (lookup_mem el)
            rw [O.cf.fld] at this
            exact this
          exact n_fld (hcf fs).2 (O.md.fld kk f hfl) hz hf (O.ix h7) (.inl (O.lcl h6.1)) (nodbg h6.2).1 (nodbg h6.2).2
theorem cS_ok (V : CmOk G pr g k kr v) (O : CtOk G pr g k kr C X W q c hb) {st : Stmt} {i : IS} (h : cS G v C st = some i) : NS X g W q c hb st i := by
  cases st with
  | Expr a p =>
    unfold cS at h
    dsimp only at h
    split at h
    · cases h; exact s_doc
    · obtain ⟨h1, h⟩ := gd_some h
      obtain ⟨ia, ha, h⟩ := ob_some h
      cases h
      exact s_ex h1 (V.E ha O)
  | Pass p => cases h; exact s_pass
  | Break p => cases h; exact s_brk
  | Continue p => cases h; exact s_cnt
  | Return e p =>
    unfold cS at h
    dsimp only at h
    split at h
    · cases h; exact s_retN
    · obtain ⟨ia, ha, h⟩ := ob_some h
      cases h
      exact s_ret (V.E ha O)
  | If d a b p =>
    obtain ⟨it, ht, h⟩ := ob_some h
    obtain ⟨ia, ha, h⟩ := ob_some h
    obtain ⟨ib, hb', h⟩ := ob_some h
    cases h
    exact s_ite (V.T ht O) (V.Ss ha O) (V.Ss hb' O)
  | Assign ts a p =>
    unfold cS at h
    dsimp only at h
    split at h
    · exact cAsg_ok V O h
    · cases h
  | AugAssign t o a p =>
    unfold cS at h
    dsimp only at h
    split at h
    · obtain ⟨ix, h1, h⟩ := ob_some h
      obtain ⟨h2, h⟩ := gd_some h
      simp only [Bool.and_eq_true, Bool.or_eq_true, decide_eq_true_eq] at h2
      obtain ⟨⟨⟨c1, c2⟩, c3⟩, c4⟩ := h2
      obtain ⟨ia, ha, h⟩ := ob_some h
      cases h
      exact s_aug O.nd' (O.ix h1) (O.loc c1) (O.fnl (by rw [Bool.or_eq_true]; exact c2)) (O.np c3) c4 (V.E ha O)
    · cases h
  | For tg iter body orelse p =>
    obtain ⟨h1, hh⟩ := gd_some h
    clear h
    simp only [Bool.and_eq_true, List.isEmpty_iff] at h1
    obtain ⟨⟨c1, c2⟩, rfl⟩ := h1
    obtain ⟨it, hi, h⟩ := ob_some hh
    clear hh
    obtain ⟨t, ht, h⟩ := ob_some h
    obtain ⟨ib, hb', h⟩ := ob_some h
    cases h
    exact s_for O.po (O.cal c1).1 c2 (cI_ok V O hi) (V.Tg ht O) (V.Ss hb' O)
  | While d body orelse p =>
    obtain ⟨h1, hh⟩ := gd_some h
    clear h
    rw [List.isEmpty_iff] at h1
    subst h1
    obtain ⟨it, ht, h⟩ := ob_some hh
    clear hh
    obtain ⟨ib, hb', h⟩ := ob_some h
    cases h
    exact s_whl O.po (V.T ht O) (V.Ss hb' O)
  | Raise e z p =>
    unfold cS at h
    dsimp only at h
    split at h
    · exact cRais_ok V O h
    · cases h
  | Try body hs orelse fin p =>
    obtain ⟨h1, hh⟩ := gd_some h
    clear h
    simp only [Bool.and_eq_true, List.isEmpty_iff] at h1
    obtain ⟨⟨⟨c1, c2⟩, rfl⟩, rfl⟩ := h1
    obtain ⟨ib, hib, h⟩ := ob_some hh
    clear hh
    obtain ⟨ihs, hih, h⟩ := ob_some h
    cases h
    obtain ⟨t0, t0', t1, t2, cf, rfl, t3⟩ := O.tr c1
    cases hs with
    | nil => cases c2
    | cons h₀ hds => exact s_try t1 t2 O.tk (fun W' pn xe tk po => V.Ss hib (O.tr' t0 t0' tk po)) (cHs_ok V O t3 hih)
  | _ => cases h
theorem cSw_ok (V : CmOk G pr g k kr v) (O : CtOk G pr g k kr C X W q c hb) {st : Stmt} {i : IS} (h : cSw G v C st = some i) : NS X g W q c hb st i := by
  unfold cSw at h
  split at h
  · rename_i j hj
    cases h
    have z := cS_ok V O hj
    unfold wrapS
    have z1 : NS X g W q c hb st (match G.lk.lookup st.pos.line with
      | some n => IS.lock n j
      | none => j) := by
      split
      · exact s_lock z
      · exact z
    dsimp only
    split
    · exact s_pin z1
    · exact z1
  · cases h; exact s_bad
theorem cSs_ok (V : CmOk G pr g k kr v) (O : CtOk G pr g k kr C X W q c hb) {st : List Stmt} {i : List IS} (h : cSs v C st = some i) : NSs X g W q c hb st i := by
  unfold cSs at h
  split at h
  · cases h; exact ss_nil
  · obtain ⟨ia, ha, h⟩ := ob_some h
    obtain ⟨ir, hr, h⟩ := ob_some h
    cases h
    exact ss_cons (V.S ha O) (V.Ss hr O)
end
/-- THE RULE: what a text is translated to is what it does -/
theorem cm_ok (G : Gt) (pr : Pr) (g : Gs) (k kr : Nat) : ∀ n, CmOk G pr g k kr (cmN G n)
  | 0 => ⟨(fun h => by cases h), (fun h => by cases h), (fun h => by cases h), (fun h => by cases h), (fun h => by cases h), (fun h => by cases h), (fun h => by cases h), (fun h => by cases h)⟩
  | n + 1 =>
    have V := cm_ok G pr g k kr n
    ⟨fun h _ _ _ _ _ O => cE_ok rfl V O h, fun h _ _ _ _ _ O => cA_ok V O h, fun h _ _ _ _ _ O => cT_ok V O h, fun h _ _ _ _ _ O => cW_ok V O h, fun h _ _ _ _ _ O => cG_ok V O h, fun h _ _ _ _ _ O => cGs_ok V O h, fun h _ _ _ _ _ O => cSw_ok V O h, fun h _ _ _ _ _ O => cSs_ok V O h⟩
end Rf
set_option maxHeartbeats 800000
namespace Rf
open PySem PySem.Spec PyProof.Rows L2 LamX RfE
section
variable {P : Program} {w : World} {K : PySem.W.Frag} {mg : Str → Option Value} {base : Heap} {CX : CXT} {k k' : Nat} {f : Addr} {fd : FuncData} {ps : List Str} {sp sp' : Sp}
theorem FnG.mono (F : FnG P w K mg base CX k f fd ps sp) (hk : k ≤ k') (h : ∀ vs H Q E, sp' vs H Q E → sp vs H Q E) : FnG P w K mg base CX k' f fd ps sp' :=
  ⟨fun vs H Q E q => F.len vs H Q E (h _ _ _ _ q), fun A outer s H args us vs Q E hA hr e0 b r q => F.run A outer s H args us vs Q E hA (hr.mono hk) e0 b r (h _ _ _ _ q)⟩
theorem FnG.vain (h : ∀ vs H Q E, ¬ sp vs H Q E) : FnG P w K mg base CX k f fd ps sp :=
  ⟨fun vs H Q E q => (h _ _ _ _ q).elim, fun A outer s H args us vs Q E _ _ _ _ _ q => (h _ _ _ _ q).elim⟩
end
section
variable {g : Gs} {m m' : List Addr} {H H' : Hp}
mutual
theorem VR.grow (hm : m <+: m') : ∀ (u : Uv) (v : V), VR g m H u v → VR g m' H u v
  | .non, _, r => r
  | .bl _, _, r => r
  | .int _, _, r => r
  | .str _, _, r => r
  | .ty _, _, r => r
  | .glb _, _, r => r
  | .alt us, v, r => VRa.grow hm us v r
  | .tup xs, _, r => by
    obtain ⟨p, ys, e, a, b⟩ := r
    exact ⟨p, ys, e, a, VRs.grow hm xs ys b⟩
  | .obj n, _, r => by
    obtain ⟨p, e, a⟩ := r
    exact ⟨p, e, pre_get hm a⟩
theorem VRa.grow (hm : m <+: m') : ∀ (us : List Uv) (v : V), VRa g m H us v → VRa g m' H us v
  | [], _, r => r
  | u :: us, v, r => r.elim (fun r => .inl (VR.grow hm u v r)) fun r => .inr (VRa.grow hm us v r)
theorem VRs.grow (hm : m <+: m') : ∀ (us : List Uv) (vs : List V), VRs g m H us vs → VRs g m' H us vs
  | [], _, r => r
  | u :: us, _, r => by
    obtain ⟨y, t, e, a, b⟩ := r
    exact ⟨y, t, e, VR.grow hm u y a, VRs.grow hm us t b⟩
end
/-- what was done where nothing was there before can be done anywhere -/
theorem Mr.any {h : List Ob} {r : Mr} {E : XK} {Q : VK} (hr : HR g m H h) (S : Sat g (fun C d _ H' => E C d H') m H (r.give h) (VPost g Q)) :
    Sat g (fun C d _ H' => E C d H') [] H (r.give []) (VPost g Q) := by
  have back : ∀ {m' : List Addr} {H' : Hp}, Le g [] H m' H' → HR g m' H' [] → m' = [] ∧ Le g m H m H' ∧ HR g m H' h := fun {m' H'} l y => by
    have e : m' = [] := List.length_eq_zero_iff.mp y.len.symm
    subst e
    have L : Le g m H m H' := ⟨List.prefix_refl _, fun q o a b c => l.keep q o a (fun z => nomatch z) c, fun q a b => absurd a b, l.sq, l.fz⟩
    refine ⟨rfl, L, y.tab, hr.len, hr.nd, fun i u eu => ?_⟩
    obtain ⟨q, ho, a, b, c⟩ := hr.at_ i u eu
    exact ⟨q, ho, a, l.keep q ho b (fun z => nomatch z) (fun ps z => c.notab.1 ps z), c.mono L⟩
  cases r with
  | ok u =>
    intro m' H' l y v rv
    obtain ⟨rfl, L, y'⟩ := back l y
    exact S m H' L y' v (VR.grow List.nil_prefix _ _ rv)
  | exc c fs =>
    intro m' H' z d l y sr e
    obtain ⟨rfl, L, y'⟩ := back l y
    refine S m H' z d L y' ⟨sr.1, fun i u e => by simp at e⟩ ?_
    rcases e with e | ⟨a, k, e1, e2, e3, e4⟩
    · exact .inl e
    · refine .inr ⟨a, k, e1, e2, fun hm => ?_, e4.1, fun f u ef => ?_⟩
      · obtain ⟨_, _, ho, _, _, b, o⟩ := y'.there hm
        rw [e2] at b
        cases b
        cases ‹Ob› with
        | lst xs => obtain ⟨ys, e, _⟩ := o; cases e
        | dic xs => obtain ⟨ys, e, _⟩ := o; cases e
        | spn => obtain ⟨_, _, _, e⟩ := o; cases e
        | dicL xs => obtain ⟨_, ys, e, _⟩ := o; cases e
        | ins i d c st vs =>
          cases st with
          | true => obtain ⟨_, _, _, _, _, e, _⟩ := o; unfold SlX.SlO at e; cases e
          | false => obtain ⟨_, _, e, _⟩ := o; cases e
        | dxo st =>
          cases st with
          | true => exact e4.1 (by have o : HO.xd k = .xd [] := o; injection o)
          | false => obtain ⟨_, e⟩ := o; cases e
        | dicN i kvs => obtain ⟨_, _, _, e, _⟩ := o; unfold NdO at e; cases e
        | lam i j => obtain ⟨_, _, _, e, _⟩ := o; unfold LamO at e; cases e
      · obtain ⟨v, h1, h2⟩ := e4.2 f u ef
        exact ⟨v, h1, VR.grow List.nil_prefix _ _ h2⟩
theorem HR.nil {h : List Ob} (hr : HR g m H h) : HR g [] H [] := ⟨hr.tab, rfl, List.nodup_nil, fun n o e => by simp at e⟩
end
/-! ### the module's defs, level by level -/
/-- what a table tells is so: each row by the def's own code, at its level, where nothing was there before -/
def MemOk (pr : Pr) (np ns : Nat) (ib : List IS) (es : Mem) : Prop := ∀ us lo r, (us, lo, r) ∈ es → Uv.unders 0 us = true ∧ runB (pr.cf (callF pr lo) (thunkF pr (callF pr lo)) noAct) np ns ib us [] = r.give []
theorem memo_some {es : Mem} {us : List Uv} {lo : Nat} {r : Mr} (h : memo es us = some (lo, r)) : (us, lo, r) ∈ es := by
  induction es with
  | nil => cases h
  | cons e t ih =>
    obtain ⟨vs, r'⟩ := e
    unfold memo at h
    split at h
    · rename_i e
      cases h
      rw [eqUs_ok _ _ e]
      exact List.mem_cons_self
    · exact List.mem_cons_of_mem _ (ih h)
/-- a def known by its text -/
structure CodeD (G : Gt) (pr : Pr) (g : Gs) (f : Nat) (fd : FuncData) (ps : List Str) (C : Ct) (name qual : Str) (body : List Stmt) (cdv : Value) (K : PySem.W.Frag) (mg : Str → Option Value) (base : Heap) (Dk : Nat → Nat → List IS → Prop) : Prop where
  ex : ∃ (params : Arguments) (scope : Scope) (dV kV doc pm ct oc : Value) (an od : Option Addr) (osl : Array (Option Value)) (N : List Str) (np ns : Nat) (ib : List IS) (n : Nat),
    fd = PySem.W.fnOf name qual params body scope dV kV doc pm an cdv ct ∧ K.lookup (g.ad f) = some ⟨oc, od, .func (PySem.W.fnOf name qual params body scope dV kV doc pm an cdv ct), osl⟩ ∧ PySem.W.codeIn K cdv qual = true ∧ FnScope N ps scope ∧ N.length = ns ∧ ps.length = np ∧
    Dk np ns ib ∧ (cmN G n).Ss C body = some ib ∧ C.sc = scope ∧ C.N = N
  fx : C.fx = none
  sp : ∀ e, C.sp e = none
  lam : C.lam = true → ∃ cA PA, TabB base mg cA PA ∧ cdv = .ref cA ∧ (PA, qual ++ ".<locals>." ++ "<lambda>") ∈ g.T ∧ ∀ p ∈ g.T, p.1 = PA → p.2 = qual ++ ".<locals>." ++ "<lambda>"
structure DfOk (G : Gt) (pr : Pr) (g : Gs) (f : Nat) (P : Program) (w : World) (K : PySem.W.Frag) (mg : Str → Option Value) (base : Heap) : Prop where
  ex : ∃ (fd : FuncData) (ps : List Str), L2.Binds K fd ps [] ∧ PySem.W.keepIn K (.ref (g.ad f)) = true ∧
    ((∀ k, FnG P w K mg base (L2.CX P w) (4 * (k + 1)) (g.ad f) fd ps (spI pr g (k + 1) f)) ∨ ∃ C name qual body cdv, CodeD G pr g f fd ps C name qual body cdv K mg base (fun np ns ib => pr.defs[f]? = some (.code np ns ib) ∨ ∃ es, pr.defs[f]? = some (.memo np ns ib es) ∧ MemOk pr np ns ib es))
/-- a def with one keyword-only parameter -/
structure KdOk (G : Gt) (pr : Pr) (g : Gs) (f n : Nat) (y : Str) (P : Program) (w : World) (K : PySem.W.Frag) (mg : Str → Option Value) (base : Heap) : Prop where
  ex : ∃ (fd : FuncData) (ps : List Str), KBn K fd ps n [y] (fun us ws => us ++ ws) (fun vs zs => vs ++ zs) ∧ PySem.W.keepIn K (.ref (g.ad f)) = true ∧
    ∃ C name qual body cdv, CodeD G pr g f fd ps C name qual body cdv K mg base (fun np ns ib => pr.defs[f]? = some (.code np ns ib) ∨ ∃ es, pr.defs[f]? = some (.memo np ns ib es) ∧ MemOk pr np ns ib es)
/-- a def whose last parameters have defaults, called without them -/
structure DdOk (G : Gt) (pr : Pr) (g : Gs) (f : Nat) (dus : List Uv) (P : Program) (w : World) (K : PySem.W.Frag) (mg : Str → Option Value) (base : Heap) : Prop where
  ex : ∃ (fd : FuncData) (ps : List Str) (ds : List Value) (dvs : List V), L2.Binds K fd ps ds ∧ Vals dvs ds ∧ (∀ m H, VRs g m H dus dvs) ∧ PySem.W.keepIn K (.ref (g.ad f)) = true ∧
    ∃ C name qual body cdv, CodeD G pr g f fd ps C name qual body cdv K mg base (fun np ns ib => pr.defs[f]? = some (.code np ns ib) ∨ ∃ es, pr.defs[f]? = some (.memo np ns ib es) ∧ MemOk pr np ns ib es)
/-- a def that calls its thunk -/
structure ThD (G0 : Gt) (pr : Pr) (g : Gs) (f : Nat) (x : Str) (P : Program) (w : World) (K : PySem.W.Frag) (mg : Str → Option Value) (base : Heap) : Prop where
  ex : ∃ (fd : FuncData) (C : Ct) (body : List Stmt) (cdv : Value) (a : Str), L2.Binds K fd [a] [] ∧ CodeD G0 pr g f fd [a] C x x body cdv K mg base (fun np ns ib => pr.defs[f]? = some (.code np ns ib)) ∧ C.ac = some a ∧ 0 ∈ C.pin ∧ C.lam = false ∧ (a == ("__debug__" : Str)) = false ∧ (a == ("__classdict__" : Str)) = false
  gm : mg x = some (.ref (g.ad f))
  kp : PySem.W.keepIn K (.ref (g.ad f)) = true
structure StOk (G0 G : Gt) (pr : Pr) (g : Gs) (P : Program) (w : World) (K : PySem.W.Frag) (mg : Str → Option Value) (base : Heap) : Prop where
  g0 : G0 = { G with th := [], lams := [] }
  hK : K = g.K
  hP : P = g.P
  hw : w = g.w
  cls : ClsOk pr g G.fl G.mt K
  cn : ∀ x ci d, G.cn.lookup x = some (ci, d) → mg x = some (.ref (g.cl ci)) ∧ L2.Mk K (g.cl ci) (g.ad d) ∧ d < pr.npos
  fns : ∀ x f, G.fns.lookup x = some f → mg x = some (.ref (g.ad f)) ∧ f < pr.npos
  vals : ∀ x j, G.vals.lookup x = some j → ∃ u v o, pr.gv[j]? = some u ∧ (∀ m H, VR g m H u v) ∧ mg x = some o ∧ RelV v o
  nb : ∀ x, x ∈ G.nb → mg x = none
  cl0 : ∀ x j, G.cl0.lookup x = some j → ∀ (kr : Nat) (Y : Cx), Y.prog = P → Y.w = w → Y.K = K → Y.mg = mg → Y.base = base → Gl Y x → Room kr Y.A → MkPlain Y x (g.cl j)
  cl1 : ∀ x j f, G.cl1.lookup x = some (j, f) → ∀ (kr : Nat) (Y : Cx), Y.prog = P → Y.w = w → Y.K = K → Y.mg = mg → Y.base = base → Gl Y x → Room kr Y.A → MkFld Y x (g.cl j) f
  hn : ∀ x j, G.hn.lookup x = some j → mg x = some (.ref (g.cl j)) ∧ ∀ i, i < pr.ncl → PySem.W.exmOne K (.ref (g.cl i)) (.ref (g.cl j)) = some (pr.sup i j)
  fld : ∀ i f, pr.fld i f = true → FldF K (g.cl i) f
  df : ∀ f, f < pr.npos → DfOk G pr g f P w K mg base
  th : ∀ x f, G.th.lookup x = some f → ThD G0 pr g f x P w K mg base
  kw : ∀ x f n y, G.kw.lookup x = some (f, n, y) → mg x = some (.ref (g.ad f)) ∧ KdOk G pr g f n y P w K mg base
  kwv : ∀ f n y, kwN pr.kws f = some (n, y) → KdOk G pr g f n y P w K mg base
  kd : ∀ x f dus, G.kd.lookup x = some (f, dus) → mg x = some (.ref (g.ad f)) ∧ DdOk G pr g f dus P w K mg base
  lam : ∀ j F, g.LS j F ↔ LSof G j F
  lmd : ∀ np ib j, (np, ib, j) ∈ G.lams → pr.defs[j]? = some (.code np np [.ret ib])
section
variable {G0 G : Gt} {pr : Pr} {g : Gs} {P : Program} {w : World} {K : PySem.W.Frag} {mg : Str → Option Value} {base : Heap}
theorem cfOk {k : Nat} {th : Nat → (List Ob → R (Uv × List Ob)) → List Ob → R (Uv × List Ob)} {ac : List Ob → R (Uv × List Ob)} {fs : List (Str × Uv)} : CfOk pr k (pr.cf (callF pr k) th ac fs) := ⟨rfl, rfl, rfl, rfl, rfl, rfl, rfl, rfl⟩
/-- the context of a def's body -/
theorem ctOf {k : Nat} {C : Ct} {N ps : List Str} {scope : Scope} {name qual : Str} {f : Addr} {cdv : Value} {A : Around} {outer : List Env} {s : Shared} {H : Hp} {E : XK} {th : Nat → (List Ob → R (Uv × List Ob)) → List Ob → R (Uv × List Ob)}
    (M : MdOk G pr g k (4 * k) P w K mg base) (S : FnScope N ps scope) (e1 : C.sc = scope) (e2 : C.N = N) (fx : C.fx = none) (sp : ∀ e, C.sp e = none) (hA : A.guards = some []) (hr : Room (4 * k + 3) (A.deeper (envOfC qual scope s.heap.objs.size f cdv)))
    (hl : C.lam = true → th = thunkF pr (callF pr k) ∧ ∃ cA PA, TabB base mg cA PA ∧ cdv = .ref cA ∧ (PA, qual ++ ".<locals>." ++ "<lambda>") ∈ g.T ∧ ∀ p ∈ g.T, p.1 = PA → p.2 = qual ++ ".<locals>." ++ "<lambda>") :
    CtOk G pr g k (4 * k) C (cxOf (L2.CX P w) P w K mg base N qual scope f cdv A outer s H E) (fun C d _ H' => E C d H') (Iv.no g) (pr.cf (callF pr k) th noAct []) (hbF (pr.cf (callF pr k) th noAct)) where
  md := M
  cf := cfOk
  sc := e1.symm
  kd := S.kind
  nn := e2.symm
  nd := by rw [e2]; exact S.nd
  pin := fun p hp => nomatch hp
  cal := fun _ => ⟨rfl, hr.mono (by omega)⟩
  un := by have := hr.un; show (A.deeper _).units + 66 < _; omega
  gd := hA
  fn := fun _ _ => rfl
  tk := takes_of rfl rfl rfl rfl
  po := passes_of rfl
  lam := fun h => by
    obtain ⟨e, cA, PA, t1, t2, t3, t4⟩ := hl h
    exact ⟨hr, e, cA, PA, t1, t2, t3, t4⟩
  ac := fun a _ W' pn xe tk p p2 => .mk fun n => ⟨fun pins s σ H Q I ⟨m, z, h, A, S⟩ => S.no.elim⟩
  fx := fun a i h => by rw [fx] at h; cases h
  sp := fun e i h => by rw [sp] at h; cases h
  tr := fun _ => ⟨fx, sp, rfl, rfl, pr.cf (callF pr k) th noAct, rfl, fun fs => ⟨cfOk, rfl⟩⟩
/-- the context of a lambda's body -/
theorem ctOfL {k : Nat} {F : LamD} {N ps : List Str} {f : Addr} {A : Around} {outer : List Env} {s : Shared} {H : Hp} {E : XK} {th : Nat → (List Ob → R (Uv × List Ob)) → List Ob → R (Uv × List Ob)}
    (M : MdOk G pr g k (4 * k) P w K mg base) (S : NdefX.NScope N ps [] F.scope) (hA : A.guards = some []) (hr : Room (4 * k + 3) (A.deeper (NdefX.envF F.nf f s.heap.objs.size))) :
    CtOk G pr g k (4 * k) (lmCt F.scope N) (NdefX.ncx (L2.CX P w) P w K mg base N F.nf f A outer s H E) (fun C d _ H' => E C d H') (Iv.no g) (pr.cf (callF pr k) th noAct []) (hbF (pr.cf (callF pr k) th noAct)) where
  md := M
  cf := cfOk
  sc := rfl
  kd := S.kind
  nn := rfl
  nd := S.nd
  pin := fun p hp => nomatch hp
  cal := fun _ => ⟨rfl, hr.mono (by omega)⟩
  un := by have := hr.un; show (A.deeper _).units + 66 < _; omega
  gd := hA
  fn := fun _ h => nomatch h
  tk := takes_of rfl rfl rfl rfl
  po := passes_of rfl
  lam := fun h => nomatch h
  ac := fun a h => nomatch h
  fx := fun a i h => nomatch h
  sp := fun e i h => nomatch h
  tr := fun h => nomatch h
theorem big_two : ∃ n, big = n + 2 := ⟨999998, by unfold big; rfl⟩
theorem lam_lev {k j : Nat} {F : LamD} (M : MdOk G pr g k (4 * k) P w K mg base) (hd : ∀ np ib j, (np, ib, j) ∈ G.lams → pr.defs[j]? = some (.code np np [.ret ib])) (h : LSof G j F) : FnL P w K mg base (L2.CX P w) (4 * (k + 1)) F (spI pr g (k + 1) j) := by
  obtain ⟨n, ib, h1, h2, h3, h4⟩ := h
  have S := NdefX.nscope_by h2
  have hdj := hd _ _ _ h4
  have hlen : F.params.args.length = (F.params.args.map (·.arg)).length := by rw [List.length_map]
  refine fnL_of (k := 4 * k + 3) S (fun pm ctv us hl => ?_) (fun vs H Q E ⟨m, h, us, hr, rv, s⟩ => ?_) fun f A outer s H vs Q E hA hr ⟨m, h, us, hrr, rv, sat⟩ => ?_
  · have hpar := plainArgs_inv h1
    have z := bind_plain (q := F.q) (as := F.params.args) (body := F.body) (scope := F.scope) (pm := pm) (cdv := .ref F.c) (ctv := ctv) (us := us) S.nd (by rw [hlen]; exact hl)
    rw [← hpar] at z
    exact z
  · simp only [callF, hdj] at s
    unfold runB at s
    obtain ⟨c, _⟩ := ite_sat s
    rw [← rv.length, c, hlen]
  · simp only [callF, hdj] at sat
    unfold runB at sat
    obtain ⟨c, sat⟩ := ite_sat sat
    have sat := close_ok (q := Iv.no g) hrr sat
    obtain ⟨nn, hn⟩ := big_two
    refine ⟨_, (cm_ok G pr g k (4 * k) n).E h3 (ctOfL (th := thunkF pr (callF pr k)) M S hA hr) nn, m, start' F.params.args.length us, h, ⟨start_ok hlen.symm rv, hrr, ⟨fun p hp => (nomatch hp), trivial⟩⟩, ?_⟩
    rw [hn] at sat
    have sat : Sat g (fun C d _ H' => E C d H') m H ((((evN (pr.cf (callF pr k) (thunkF pr (callF pr k)) noAct []) (hbF (pr.cf (callF pr k) (thunkF pr (callF pr k)) noAct)) nn).E ib (start' F.params.args.length us) h).bind fun p => .ok (Fl.rt p.1, p.2)).bind fun p => match p.1 with
      | .nx s' => (evN (pr.cf (callF pr k) (thunkF pr (callF pr k)) noAct []) (hbF (pr.cf (callF pr k) (thunkF pr (callF pr k)) noAct)) (nn + 1)).Ss [] s' p.2
      | f => .ok (f, p.2)) (FPost g (Iv.no g) { nx := fun _ H' => Q .non H', rt := Q }) := sat
    exact (Sat.bind (Sat.bind sat)).imp fun u h1 m1 H1 l1 hr1 S1 v rv => (S1.ok0 hr1).ok0 hr1 v rv
theorem fnG_any {k : Nat} {f : Addr} {fd : FuncData} {ps : List Str} {sp : Sp} {ι : Type} {I : ι → Prop} {sj : ι → Sp} (F : ∀ j, I j → FnG P w K mg base (L2.CX P w) k f fd ps (sj j)) (h : ∀ vs H Q E, sp vs H Q E → ∃ j, I j ∧ sj j vs H Q E) : FnG P w K mg base (L2.CX P w) k f fd ps sp :=
  ⟨fun vs H Q E q => let ⟨j, i, q⟩ := h _ _ _ _ q; (F j i).len vs H Q E q, fun A outer s H args us vs Q E hA hr e0 b r q => let ⟨j, i, q⟩ := h _ _ _ _ q; (F j i).run A outer s H args us vs Q E hA hr e0 b r q⟩
theorem code_lev {k f : Nat} {fd : FuncData} {ps : List Str} {C : Ct} {name qual : Str} {body : List Stmt} {cdv : Value} (M : ∀ j, j ≤ k → MdOk G pr g j (4 * j) P w K mg base)
    (D : CodeD G pr g f fd ps C name qual body cdv K mg base (fun np ns ib => pr.defs[f]? = some (.code np ns ib) ∨ ∃ es, pr.defs[f]? = some (.memo np ns ib es) ∧ MemOk pr np ns ib es)) : FnG P w K mg base (L2.CX P w) (4 * (k + 1)) (g.ad f) fd ps (spI pr g (k + 1) f) := by
  obtain ⟨params, scope, dV, kV, doc, pm, ct, oc, an, od, osl, N, np, ns, ib, n, rfl, e1, e2, e3, e4, e5, e6, e7, e8, e9⟩ := D.ex
  have F : ∀ j, j ≤ k → FnG P w K mg base (L2.CX P w) (4 * (k + 1)) (g.ad f) _ ps (spR pr g j np ns ib) := fun j hj =>
    (fnR_of (r := 4 * j + 3) e1 e2 e3 e4 e5 fun A outer s H E hA hr => (cm_ok G pr g j (4 * j) n).Ss e7 (ctOf (name := name) (M j hj) e3 e8 e9 D.fx D.sp hA hr fun h => ⟨rfl, D.lam h⟩)).mono (by omega) fun _ _ _ _ q => q
  refine fnG_any F fun vs H Q E ⟨m, h, us, hr, rv, S⟩ => ?_
  rcases e6 with e6 | ⟨es, e6, me⟩
  · simp only [callF, e6] at S
    exact ⟨k, Nat.le_refl k, m, h, us, hr, rv, S⟩
  · simp only [callF, e6] at S
    split at S
    · rename_i lo r em
      obtain ⟨hl, S⟩ := ite_sat S
      obtain ⟨q1, q2⟩ := me us lo r (memo_some em)
      exact ⟨lo, hl, [], [], us, hr.nil, VRs.cut List.nil_prefix us vs q1 rv, by rw [q2]; exact Mr.any hr S⟩
    · exact ⟨k, Nat.le_refl k, m, h, us, hr, rv, S⟩
theorem fn_lev {k f : Nat} (St : StOk G0 G pr g P w K mg base) (M : ∀ j, j ≤ k → MdOk G pr g j (4 * j) P w K mg base) (hf : f < pr.npos) : ∃ fd ps, FnG P w K mg base (L2.CX P w) (4 * (k + 1)) (g.ad f) fd ps (spI pr g (k + 1) f) ∧ L2.Binds K fd ps [] ∧ PySem.W.keepIn K (.ref (g.ad f)) = true := by
  obtain ⟨fd, ps, b, kp, h | ⟨C, name, qual, body, cdv, D⟩⟩ := (St.df f hf).ex
  · exact ⟨fd, ps, h k, b, kp⟩
  · exact ⟨fd, ps, code_lev M D, b, kp⟩
theorem th_lev {k fi : Nat} {x : Str} (M : MdOk G0 pr g k (4 * k) P w K mg base) (T : ThD G0 pr g fi x P w K mg base) : ThOk pr g k (4 * k + 1) fi x P w K mg base := by
  obtain ⟨fd, C, body, cdv, a, b, D, h1, h2, h3, h4, h5⟩ := T.ex
  obtain ⟨params, scope, dV, kV, doc, pm, ct, oc, an, od, osl, N, np, ns, ib, n, rfl, e1, e2, e3, e4, e5, e6, e7, e8, e9⟩ := D.ex
  have e5 : np = 1 := e5.symm
  subst e5
  have hN0 : N[0]? = some a := by
    have := e3.pre
    cases N with
    | nil => cases this
    | cons y r =>
      simp at this
      rw [this] <;> rfl
  have hv : Vis scope a := (e3.par a List.mem_cons_self).elim (fun h => .inl h) fun h => .inr (.inl h)
  refine ⟨⟨params, body, scope, dV, kV, doc, pm, cdv, ct, oc, an, od, osl, N, a, e1, e2, b, e3, hN0, hv, h4, h5, fun X qq q1 q2 q3 q4 q5 hA => ?_⟩, T.gm, T.kp⟩
  subst q1 q2 q3 q4 q5
  refine gives_of e6 e4 fun f c' s H m0 H0 ac hr hact => (cm_ok G0 pr g k (4 * k) n).Ss e7 ?_
  exact {
    md := M
    cf := cfOk
    sc := e8.symm
    kd := e3.kind
    nn := e9.symm
    nd := by rw [e9]; exact e3.nd
    pin := fun p hp => by rw [show p = (0, f) from by simpa [qAct] using hp]; exact h2
    cal := fun _ => ⟨rfl, hr.mono (by omega)⟩
    un := by have := hr.un; show (X.A.deeper _).units + 66 < _; omega
    gd := hA
    fn := fun _ _ => rfl
    tk := takes0
    po := PassesOwn.never
    lam := fun h => by rw [h3] at h; cases h
    ac := fun a' ha W' pn xe tk p p2 => by
      rw [h1] at ha
      cases ha
      exact hact W' pn xe p p2 tk
    fx := fun a i h => by rw [D.fx] at h; cases h
    sp := fun e i h => by rw [D.sp] at h; cases h
    tr := fun _ => ⟨D.fx, D.sp, rfl, rfl, pr.cf (callF pr k) noThunk ac, rfl, fun fs => ⟨cfOk, rfl⟩⟩ }
abbrev KwAt (G : Gt) (pr : Pr) (g : Gs) (k : Nat) (P : Program) (w : World) (K : PySem.W.Frag) (mg : Str → Option Value) (base : Heap) : Prop := ∀ x f n y, G.kw.lookup x = some (f, n, y) → mg x = some (.ref (g.ad f)) ∧ ∃ fd ps, FnG P w K mg base (L2.CX P w) (4 * k) (g.ad f) fd ps (spI pr g k f) ∧ KBn K fd ps n [y] (fun us ws => us ++ ws) (fun vs zs => vs ++ zs) ∧ PySem.W.keepIn K (.ref (g.ad f)) = true
abbrev KvAt (pr : Pr) (g : Gs) (k : Nat) (P : Program) (w : World) (K : PySem.W.Frag) (mg : Str → Option Value) (base : Heap) : Prop := ∀ f n y, kwN pr.kws f = some (n, y) → ∃ fd ps, FnG P w K mg base (L2.CX P w) (4 * k) (g.ad f) fd ps (spI pr g k f) ∧ KBn K fd ps n [y] (fun us ws => us ++ ws) (fun vs zs => vs ++ zs) ∧ PySem.W.keepIn K (.ref (g.ad f)) = true
abbrev DdAt (G : Gt) (pr : Pr) (g : Gs) (k : Nat) (P : Program) (w : World) (K : PySem.W.Frag) (mg : Str → Option Value) (base : Heap) : Prop := ∀ x f dus, G.kd.lookup x = some (f, dus) → mg x = some (.ref (g.ad f)) ∧ ∃ fd ps ds dvs, FnG P w K mg base (L2.CX P w) (4 * k) (g.ad f) fd ps (spI pr g k f) ∧ L2.Binds K fd ps ds ∧ Vals dvs ds ∧ (∀ m H, VRs g m H dus dvs) ∧ PySem.W.keepIn K (.ref (g.ad f)) = true
theorem md_of {k : Nat} (St : StOk G0 G pr g P w K mg base) (hc : ∀ f, f < pr.npos → ∃ fd ps, FnG P w K mg base (L2.CX P w) (4 * k) (g.ad f) fd ps (spI pr g k f) ∧ L2.Binds K fd ps [] ∧ PySem.W.keepIn K (.ref (g.ad f)) = true) (hk : KwAt G pr g k P w K mg base) (hv : KvAt pr g k P w K mg base) (hd : DdAt G pr g k P w K mg base) (hl : ∀ j F, g.LS j F → FnL P w K mg base (L2.CX P w) (4 * k) F (spI pr g k j)) : MdOk G pr g k (4 * k) P w K mg base := by
  have M0 : MdOk G0 pr g k (4 * k) P w K mg base := by
    rw [St.g0]
    exact ⟨St.hK, St.hP, St.hw, St.cls, hv, hd, St.cn, St.fns, hc, St.vals, St.nb, fun x j h Y => St.cl0 x j h (4 * k) Y, fun x j f h Y => St.cl1 x j f h (4 * k) Y, St.hn, St.fld, (fun x f h => by cases h), hk, hl, (fun j F ⟨_, _, _, _, _, h⟩ => nomatch h)⟩
  exact ⟨St.hK, St.hP, St.hw, St.cls, hv, hd, St.cn, St.fns, hc, St.vals, St.nb, fun x j h Y => St.cl0 x j h (4 * k) Y, fun x j f h Y => St.cl1 x j f h (4 * k) Y, St.hn, St.fld, fun x f h => th_lev M0 (St.th x f h), hk, hl, fun j F h => (St.lam j F).mpr h⟩
theorem fnG_zero {f : Nat} {fd : FuncData} {ps : List Str} : FnG P w K mg base (L2.CX P w) (4 * 0) (g.ad f) fd ps (spI pr g 0 f) :=
  ⟨fun vs H Q E ⟨m, h, us, _, _, s⟩ => (show Sat g _ m H (R.fail) _ from s).no.elim, fun A outer s H args us vs Q E _ _ _ _ _ ⟨m, h, us', _, _, s'⟩ => (show Sat g _ m H (R.fail) _ from s').no.elim⟩
/-- THE RULE: the module at every level -/
theorem md_levs (St : StOk G0 G pr g P w K mg base) : ∀ k j, j ≤ k → MdOk G pr g j (4 * j) P w K mg base
  | 0, j, hj => by
    obtain rfl : j = 0 := by omega
    exact md_of St (fun f hf => by
      obtain ⟨fd, ps, b, kp, _⟩ := (St.df f hf).ex
      exact ⟨fd, ps, fnG_zero, b, kp⟩) (fun x f n y h => by
        obtain ⟨a, fd, ps, b, kp, _⟩ := St.kw x f n y h |>.imp id (·.ex)
        exact ⟨a, fd, ps, fnG_zero, b, kp⟩)
      (fun f n y h => by
        obtain ⟨fd, ps, b, kp, _⟩ := (St.kwv f n y h).ex
        exact ⟨fd, ps, fnG_zero, b, kp⟩)
      (fun x f dus h => by
        obtain ⟨a, fd, ps, ds, dvs, b, d1, d2, kp, _⟩ := St.kd x f dus h |>.imp id (·.ex)
        exact ⟨a, fd, ps, ds, dvs, fnG_zero, b, d1, d2, kp⟩)
      fun j F _ => ⟨fun f A outer s H us vs Q E _ _ _ _ _ _ ⟨m, h, us', _, _, s'⟩ => (show Sat g _ m H (R.fail) _ from s').no.elim⟩
  | k + 1, j, hj => by
    by_cases e : j ≤ k
    · exact md_levs St k j e
    · obtain rfl : j = k + 1 := by omega
      exact md_of St (fun f hf => fn_lev St (md_levs St k) hf) (fun x f n y h => by
        obtain ⟨a, fd, ps, b, kp, C, name, qual, body, cdv, D⟩ := St.kw x f n y h |>.imp id (·.ex)
        exact ⟨a, fd, ps, code_lev (md_levs St k) D, b, kp⟩)
       (fun f n y h => by
        obtain ⟨fd, ps, b, kp, C, name, qual, body, cdv, D⟩ := (St.kwv f n y h).ex
        exact ⟨fd, ps, code_lev (md_levs St k) D, b, kp⟩)
       (fun x f dus h => by
        obtain ⟨a, fd, ps, ds, dvs, b, d1, d2, kp, C, name, qual, body, cdv, D⟩ := St.kd x f dus h |>.imp id (·.ex)
        exact ⟨a, fd, ps, ds, dvs, code_lev (md_levs St k) D, b, d1, d2, kp⟩)
       fun j F h => lam_lev (md_levs St k k (Nat.le_refl k)) St.lmd ((St.lam j F).mp h)
theorem md_lev (St : StOk G0 G pr g P w K mg base) (k : Nat) : MdOk G pr g k (4 * k) P w K mg base := md_levs St k k (Nat.le_refl k)
end
end Rf
set_option maxHeartbeats 4000000
namespace Rf
open PySem PySem.Spec PyProof.Rows L2 LamX RfE
/-! ### defs known by what they do to the one object they get -/
section
variable {g g' : Gs} {m m' : List Addr} {H H' : Hp} {h h' : List Ob} {n : Nat} {p : Addr}
theorem frm_lst (x : HR g m H h) (hu : h[n]? = some .spn) (hn : m[n]? = some p) : ∃ a b c : Int, H p = some (.lst [.int a, .int b, .int c]) := by
  obtain ⟨q, ho, e1, e2, a, b, c, e3⟩ := x.at_ n _ hu
  rw [hn] at e1
  cases e1
  exact ⟨a, b, c, by rw [e2, e3]⟩
theorem frm_one (l : Le g' [p] H m' H') (x : HR g' m' H' h') (hl : h'.length = 1) : m' = [p] := by
  have e : m'.length = 1 := by rw [← x.len]; exact hl
  exact (List.IsPrefix.eq_of_length l.pre e.symm).symm
theorem frm_in {o : Ob} {ho : HO} (t : Tabs g'.T H) (e : H p = some ho) (ho' : OR g' [p] H o ho) : HR g' [p] H [o] :=
  ⟨t, rfl, by simp, fun i u e1 => by
    cases i with
    | zero =>
      cases e1
      exact ⟨p, ho, rfl, e, ho'⟩
    | succ i => simp at e1⟩
theorem frm_back (hK : g'.K = g.K) (hT : g'.T = g.T) (x : HR g m H h) (hu : h[n]? = some .spn) (hn : m[n]? = some p) (l : Le g' [p] H m' H') (y : HR g' m' H' h') (hl : h'.length = 1) {a b c : Int} (e : H' p = some (.lst [.int a, .int b, .int c])) : Le g m H m H' ∧ HR g m H' h := by
  have hm := frm_one l y hl
  subst hm
  have pm : p ∈ m := List.mem_of_getElem? hn
  have L : Le g m H m H' := ⟨List.prefix_refl _, fun q o e1 e2 e3 => l.keep q o e1 (fun z => e2 (by rw [List.mem_singleton.mp z]; exact pm)) e3, fun q a b => absurd a b, fun q ys s => by
    have := l.sq q ys (by rw [hK]; exact s)
    rw [hK] at this
    exact this, l.fz⟩
  refine ⟨L, by rw [← hT]; exact y.tab, x.len, x.nd, fun i u e1 => ?_⟩
  obtain ⟨q, ho, e2, e3, e4⟩ := x.at_ i u e1
  by_cases hq : q = p
  · subst hq
    have hi : i = n := x.inj e2 hn
    subst hi
    rw [hu] at e1
    cases e1
    exact ⟨q, _, e2, e, a, b, c, rfl⟩
  · exact ⟨q, ho, e2, l.keep q ho e3 (fun z => hq (List.mem_singleton.mp z)) (fun ps z => e4.notab.1 ps z), e4.mono L⟩
end
section
variable {P : Program} {w : World} {K : PySem.W.Frag} {mg : Str → Option Value} {base : Heap} {CX : CXT} {fd : FuncData} {ps : List Str} {g : Gs}
/-- a def that says True of the object, at every level above lo -/
theorem yes_of {pr pr2 : Pr} {k lo f : Nat} (F : FnG P w K mg base CX (4 * k) (g.ad f) fd ps (spI pr g k f)) (hd : pr2.defs[f]? = some (.yes lo)) (hlo : k ≤ lo + 1)
    (hT : (callF pr k f [.obj 0] [.spn]).all (fun q => q = (.bl true, [.spn])) fun _ _ _ _ => False) (k2 : Nat) : FnG P w K mg base CX (4 * (k2 + 1)) (g.ad f) fd ps (spI pr2 g (k2 + 1) f) := by
  by_cases hk : lo ≤ k2
  · refine F.mono (by omega) fun vs H Q E ⟨m, h, us, hr, rv, S⟩ => ?_
    simp only [callF, hd] at S
    split at S
    · rename_i n
      split at S
      · rename_i hu
        rw [if_pos hk] at S
        obtain ⟨v, t, rfl, rv1, rv2⟩ := rv
        rw [show t = [] from rv2]
        obtain ⟨p, rfl, hn⟩ := rv1
        obtain ⟨a, b, c, e⟩ := frm_lst hr hu hn
        refine ⟨[p], [.spn], [.obj 0], frm_in hr.tab e ⟨a, b, c, rfl⟩, ⟨.ref p, [], rfl, ⟨p, rfl, rfl⟩, rfl⟩, ?_⟩
        refine R.all_mono (fun q hq m' H' l y v rv => ?_) (fun _ _ _ _ z => z.elim) hT
        subst hq
        obtain ⟨q, ho, e1, e2, a', b', c', e3⟩ := y.at_ 0 _ rfl
        rw [frm_one l y rfl] at e1
        cases e1
        obtain ⟨L, y'⟩ := frm_back rfl rfl hr hu hn l y rfl (by rw [e2, e3])
        exact S m H' L y' v rv
      · exact S.no.elim
    · exact S.no.elim
  · refine .vain fun vs H Q E ⟨m, h, us, hr, rv, S⟩ => ?_
    simp only [callF, hd] at S
    split at S
    · split at S
      · rw [if_neg hk] at S
        exact S.no
      · exact S.no
    · exact S.no
/-- a def that draws a number below its second argument -/
theorem spin_of {pr pr1 : Pr} {g1 : Gs} {f : Nat} (hK : g1.K = g.K) (hTt : g1.T = g.T) (F : FnG P w K mg base CX 4 (g1.ad 0) fd ps (spI pr1 g1 1 0)) (ha : g1.ad 0 = g.ad f) (hd : pr.defs[f]? = some .spin)
    (hS : ∀ a b c t : Int, 0 < t → t < 1073741824 → ∃ r a' b' c' : Int, 0 ≤ r ∧ r < t ∧ callF pr1 1 0 [.obj 0, .int t] [.lst [.int a, .int b, .int c]] = .ok (.int r, [.lst [.int a', .int b', .int c']])) (k2 : Nat) :
    FnG P w K mg base CX (4 * (k2 + 1)) (g.ad f) fd ps (spI pr g (k2 + 1) f) := by
  rw [ha] at F
  refine F.mono (by omega) fun vs H Q E ⟨m, h, us, hr, rv, S⟩ => ?_
  simp only [callF, hd] at S
  split at S
  · rename_i n t
    split at S
    · rename_i hu
      obtain ⟨ct, S⟩ := ite_satb S
      rw [Bool.and_eq_true, decide_eq_true_eq, decide_eq_true_eq] at ct
      obtain ⟨v, t1, rfl, rv1, v2, t2, rfl, rv2, rv3⟩ := rv
      rw [show t2 = [] from rv3]
      obtain ⟨p, rfl, hn⟩ := rv1
      cases rv2
      obtain ⟨a, b, c, e⟩ := frm_lst hr hu hn
      obtain ⟨r, a', b', c', r1, r2, er⟩ := hS a b c t ct.1 ct.2
      refine ⟨[p], [.lst [.int a, .int b, .int c]], [.obj 0, .int t], frm_in (by rw [hTt]; exact hr.tab) e ⟨_, rfl, _, _, rfl, rfl, _, _, rfl, rfl, _, _, rfl, rfl, rfl⟩, ⟨.ref p, _, rfl, ⟨p, rfl, rfl⟩, _, _, rfl, rfl, rfl⟩, ?_⟩
      rw [er]
      intro m' H' l y v rv
      obtain ⟨q, ho, e1, e2, ys, e3, e4⟩ := y.at_ 0 _ rfl
      rw [frm_one l y rfl] at e1
      cases e1
      obtain ⟨_, _, rfl, x1, _, _, rfl, x2, _, _, rfl, x3, x4⟩ := e4
      cases x1
      cases x2
      cases x3
      cases x4
      obtain ⟨L, y'⟩ := frm_back hK hTt hr hu hn l y rfl (by rw [e2, e3])
      have S1 := S r.toNat (by omega)
      have S1 := S1 m H' L y' v
      cases rv
      exact S1 (by show V.int r = V.int (r.toNat : Int); rw [Int.toNat_of_nonneg r1])
    · exact S.no.elim
  · exact S.no.elim
end
end Rf
set_option maxHeartbeats 4000000
namespace Rf
open PySem PySem.Spec PyProof.Rows L2 LamX RfE
/-! ### the script -/
/-- a list that is not one of the data's objects -/
def Scr (g : Gs) (a : Addr) (xs : List V) (m : List Addr) (H : Hp) : Prop := (∃ o, H a = some o ∧ (o = .lst xs ∨ ∃ ob, o = .frz ob (.lst xs)) ∧ a ∉ m) ∨
  ∃ (o : Obj) (its : Array Value) (n : Nat), g.K.lookup a = some o ∧ o.cls = .type "list" ∧ o.dict = none ∧ o.data = .seq its n ∧ its.size ≤ sizeLine ∧ Vals xs its.toList
theorem Scr.mono {g : Gs} {a : Addr} {xs : List V} {m m' : List Addr} {H H' : Hp} (l : Le g m H m' H') (s : Scr g a xs m H) : Scr g a xs m' H' := by
  rcases s with ⟨o, e1, e2, e3⟩ | s
  · have nt : ∀ ps, o ≠ .tbl ps := fun ps z => by
      rcases e2 with e | ⟨ob, e⟩
      · rw [e] at z; cases z
      · rw [e] at z; cases z
    exact .inl ⟨o, (l.stay e1 e3 nt).1, e2, (l.stay e1 e3 nt).2⟩
  · exact .inr s
theorem Scr.sq {g : Gs} {a : Addr} {xs : List V} {m : List Addr} {H : Hp} (s : Scr g a xs m H) : SqL g.K H a xs := by
  rcases s with ⟨o, e1, e2, e3⟩ | s
  · rcases e2 with e | ⟨ob, e⟩
    · exact .inl (.inl (by rw [e1, e]))
    · exact .inl (.inr ⟨ob, by rw [e1, e]⟩)
  · exact .inr s
theorem Scr.of {g : Gs} {a : Addr} {xs : List V} {H : Hp} (s : SqL g.K H a xs) : Scr g a xs [] H := by
  rcases s with (s | ⟨ob, s⟩) | s
  · exact .inl ⟨_, s, .inl rfl, fun z => nomatch z⟩
  · exact .inl ⟨_, s, .inr ⟨ob, rfl⟩, fun z => nomatch z⟩
  · exact .inr s
def qScr (g : Gs) (a : Addr) (xs : List V) : Iv g := ⟨[(0, a)], Scr g a xs, fun _ _ _ _ l s => s.mono l⟩
section
variable {X : Cx} {g : Gs} {W : WX} {c : Cf} {hb : Hbt} {pos : Pos}
/-- max(1, min(kk, len(x))) -/
theorem n_few {a : Addr} {xs : List V} {x y z n : Str} {p1 p2 p3 p4 p5 p6 p7 p8 : Pos} {k1 k2 kk : Nat} (hkk : 0 < kk) (hK : X.K = g.K) (hA : X.A.guards = some []) (hu : X.A.units + 66 < cLine) (hc : X.calm = true)
    (hx : x = "max") (hy : y = "min") (hz : z = "len") (gx : Gl X x) (mx : X.mg x = none) (gy : Gl X y) (my : X.mg y = none) (gz : Gl X z) (mz : X.mg z = none)
    (hN : X.N[0]? = some n) (hv : Vis X.env.scope n) (hd : (n == ("__debug__" : Str)) = false) (hcd : (n == ("__classdict__" : Str)) = false) :
    NE X g W (qScr g a xs) c hb (.Call (.Name x p1) [.Constant (.int 1) k1 p2, .Call (.Name y p3) [.Constant (.int (kk : Int)) k2 p4, .Call (.Name z p5) [.Name n p6] [] p7] [] p8] [] pos) (.few kk) :=
  .mk fun n' => by
    subst hx hy hz
    have b1 := bi_boot .max2 (by decide) (by decide) (by decide)
    have b2 := bi_boot .min2 (by decide) (by decide) (by decide)
    have b3 := bi_boot .len (by decide) (by decide) (by decide)
    have q1 := pe_callB (pos := p7) (p := p5) (cr_bi hA hu .len (fun _ => hc)) gz mz b3.1 (pa_cons (pe_var (pos := p6) hN hv hd hcd) pa_nil rfl) b3.2.1 b3.2.2 rfl rfl
    have q2 := pe_callB (pos := p8) (p := p3) (cr_bi hA hu .min2 (fun _ => hc)) gy my b2.1 (pa_cons (pe_int (i := (kk : Int)) (j := k2) (pos := p4)) (pa_cons q1 pa_nil rfl) rfl) b2.2.1 b2.2.2 rfl rfl
    have q3 := pe_callB (pos := pos) (p := p1) (cr_bi hA hu .max2 (fun _ => hc)) gx mx b1.1 (pa_cons (pe_int (i := 1) (j := k1) (pos := p2)) (pa_cons q2 pa_nil rfl) rfl) b1.2.1 b1.2.2 rfl rfl
    refine q3.of fun σ H Q ⟨m, s, h, A, S⟩ => ?_
    have hs : SqL X.K H a xs := by rw [hK]; exact A.cu.2.sq
    refine ⟨.ref a, A.cu.1 (0, a) List.mem_cons_self, .inl ⟨.ref a, xs.length, rfl, .inl ⟨xs, hs, rfl⟩, ?_⟩⟩
    refine ⟨_, _, rfl, _, _, rfl, ?_⟩
    have S : ∀ r, r < kk → Sat g W m H (R.ok (Uv.int ((r + 1 : Nat) : Int), h)) (VPost g Q) := fun r hr => S r hr
    show Q (.int (if (if (xs.length : Int) < (kk : Int) then (xs.length : Int) else (kk : Int)) > 1 then (if (xs.length : Int) < (kk : Int) then (xs.length : Int) else (kk : Int)) else 1)) H
    by_cases h1 : (xs.length : Int) < (kk : Int)
    · rw [if_pos h1]
      by_cases h2 : (xs.length : Int) > 1
      · rw [if_pos h2]
        have := (S (xs.length - 1) (by omega)).ok0 A.hr _ rfl
        rw [show xs.length - 1 + 1 = xs.length by omega] at this
        exact this
      · rw [if_neg h2]
        exact (S 0 hkk).ok0 A.hr _ rfl
    · rw [if_neg h1]
      by_cases h2 : (kk : Int) > 1
      · rw [if_pos h2]
        have := (S (kk - 1) (by omega)).ok0 A.hr _ rfl
        rw [show kk - 1 + 1 = kk by omega] at this
        exact this
      · rw [if_neg h2]
        exact (S 0 hkk).ok0 A.hr _ rfl
/-- what _law_spins promises -/
def spS (g : Gs) : Sp := fun vs H Q _ => ∃ (a : Addr) (ns : List Int) (j : Int), vs = [.ref a, .int j] ∧ SqL g.K H a (ns.map V.int) ∧ 0 ≤ j ∧ j < 10 ∧ Tabs g.T H ∧ ∀ (H' : Hp) (p : Addr) (x y z : Int), Le g [] H [p] H' → Tabs g.T H' → H' p = some (.lst [.int x, .int y, .int z]) → Q (.ref p) H'
theorem spS_back {m : List Addr} {H H' : Hp} {h : List Ob} {p : Addr} {x y z : Int} (hr : HR g m H h) (l : Le g [] H [p] H') (t : Tabs g.T H') (e : H' p = some (.lst [.int x, .int y, .int z])) : Le g m H (m ++ [p]) H' ∧ HR g (m ++ [p]) H' (h ++ [.spn]) := by
  have pm : p ∉ m := fun hm => by
    obtain ⟨_, _, ho, _, _, b, r⟩ := hr.there hm
    obtain ⟨ps, q⟩ := l.new p List.mem_cons_self (fun z => nomatch z) ho b
    exact r.notab.1 ps q
  have L : Le g m H (m ++ [p]) H' := ⟨List.prefix_append _ _, fun q o a b c => l.keep q o a (fun z => nomatch z) c, fun q a b o eo => by
    rcases List.mem_append.mp a with z | z
    · exact absurd z b
    · exact l.new q z (fun z => nomatch z) o eo, l.sq, l.fz⟩
  refine ⟨L, t, by rw [List.length_append, List.length_append, hr.len] <;> rfl, ?_, fun i u eu => ?_⟩
  · refine List.nodup_append.mpr ⟨hr.nd, by simp, fun a ha b hb => ?_⟩
    rw [List.mem_singleton.mp hb]
    exact fun z => pm (z ▸ ha)
  · by_cases hi : i < h.length
    · rw [List.getElem?_append_left hi] at eu
      obtain ⟨q, ho, a, b, c⟩ := hr.at_ i u eu
      exact ⟨q, ho, pre_get L.pre a, l.keep q ho b (fun z => nomatch z) (fun ps z => c.notab.1 ps z), c.mono L⟩
    · have hi' : i = h.length := by
        have := (List.getElem?_eq_some_iff.mp eu).1
        rw [List.length_append] at this
        have : i < h.length + 1 := this
        omega
      subst hi'
      rw [List.getElem?_append_right (Nat.le_refl _), Nat.sub_self] at eu
      have eu' : Ob.spn = u := by simpa using eu
      subst eu'
      refine ⟨p, _, ?_, e, x, y, z, rfl⟩
      rw [hr.len, List.getElem?_append_right (Nat.le_refl _), Nat.sub_self] <;> rfl
theorem n_spns {kr : Nat} {f : Addr} {fd : FuncData} {ps : List Str} {a : Addr} {ns : List Int} {x n : Str} {e : Expr} {i : IE} {p p1 : Pos} (hK : X.K = g.K) (F : FnG X.prog X.w X.K X.mg X.base (L2.CX X.prog X.w) kr f fd ps (spS g)) (tk : Takes X W) (hA : X.A.guards = some []) (hr : Room kr X.A)
    (hg : Gl X x) (hm : X.mg x = some (.ref f)) (hk : PySem.W.keepIn X.K (.ref f) = true) (hb' : L2.Binds X.K fd ps []) (hdb : (x == ("__debug__" : Str)) = false) (hN : X.N[0]? = some n) (hv : Vis X.env.scope n) (hd : (n == ("__debug__" : Str)) = false) (hcd : (n == ("__classdict__" : Str)) = false)
    (hp : plainE e = true) (he : NE X g W (qScr g a (ns.map V.int)) c hb e i) : NE X g W (qScr g a (ns.map V.int)) c hb (.Call (.Name x p) [.Name n p1, e] [] pos) (.spns i) :=
  .mk fun n' => by
    refine (pe_callG (E := WE W) F hA hr hg hm hk hb' (passAt tk) (pa_cons (pe_var (pos := p1) hN hv hd hcd) (pa_cons (he n') pa_nil (star_of hp _ _)) rfl) hdb rfl (any_stars (by rw [List.all_cons, hp] <;> rfl))).of fun σ H Q ⟨m, s, h, A, S⟩ => ?_
    refine ⟨.ref a, A.cu.1 (0, a) List.mem_cons_self, m, s, h, A, (Sat.bind S).imp fun u h1 m1 H1 l1 hr1 S1 v rv => ?_⟩
    split at S1
    · rename_i j eu
      rw [show u = .int j from eu] at rv
      cases rv
      obtain ⟨ct, S1⟩ := ite_satb S1
      rw [Bool.and_eq_true, decide_eq_true_eq, decide_eq_true_eq] at ct
      refine ⟨a, ns, j, rfl, (A.cu.2.mono l1).sq, ct.1, ct.2, hr1.tab, fun H' p x y z l t e => ?_⟩
      obtain ⟨L, y'⟩ := spS_back hr1 l t e
      refine S1 (m1 ++ [p]) H' L y' (.ref p) ⟨p, rfl, ?_⟩
      rw [hr1.len, List.getElem?_append_right (Nat.le_refl _), Nat.sub_self] <;> rfl
    · exact S1.no.elim
end
end Rf
set_option maxHeartbeats 4000000
namespace Rf
open PySem PySem.Spec PyProof.Rows L2 LamX RfE
section
variable {X : Cx}
/-- the script's cell, or what stands for it -/
theorem pe_cell {nS nJ xl xi : Str} {c1 c2 : Int} {k1 k2 : Nat} {p1 p2 p3 p4 p5 p6 p7 p8 p9 q1 q2 q3 q4 q5 q6 q7 : Pos} (hA : X.A.guards = some []) (hu : X.A.units + 66 < cLine) (hc : X.calm = true)
    (hl : xl = "len") (hi : xi = "int") (gl : Gl X xl) (ml : X.mg xl = none) (gi : Gl X xi) (mi : X.mg xi = none) (n0 : X.N[0]? = some nS) (n1 : X.N[1]? = some nJ) (v0 : Vis X.env.scope nS) (v1 : Vis X.env.scope nJ)
    (d0 : (nS == ("__debug__" : Str)) = false) (d1 : (nJ == ("__debug__" : Str)) = false) (e0 : (nS == ("__classdict__" : Str)) = false) (e1 : (nJ == ("__classdict__" : Str)) = false) :
    PE X (.IfExp (.Compare (.Name nJ p1) [.Lt] [.Call (.Name xl p2) [.Name nS p3] [] p4] p5) (.Call (.Name xi p6) [.Subscript (.Name nS p7) (.Name nJ p8) p9] [] q1) (.BinOp (.BinOp (.Constant (.int c1) k1 q2) .Mult (.Name nJ q3) q4) .Add (.Constant (.int c2) k2 q5) q6) q7)
      (fun σ H Q => ∃ (a : Addr) (ns : List Int) (j : Int), σ[0]? = some (some (.ref a)) ∧ σ[1]? = some (some (.int j)) ∧ SqL X.K H a (ns.map V.int) ∧ 0 ≤ j ∧ j < 10 ∧ (-(2 ^ 64) < c1 ∧ c1 < 2 ^ 64) ∧ ∀ x : Int, Q (.int x) H) := by
  subst hl hi
  have b3 := bi_boot .len (by decide) (by decide) (by decide)
  have b4 := bi_boot .int (by decide) (by decide) (by decide)
  have r1 := pe_callB (pos := p4) (p := p2) (cr_bi hA hu .len (fun _ => hc)) gl ml b3.1 (pa_cons (pe_var (pos := p3) n0 v0 d0 e0) pa_nil rfl) b3.2.1 b3.2.2 rfl rfl
  have r2 := pt_cmpR (pos := p5) op_lt (pe_var (pos := p1) n1 v1 d1 e1) r1 rfl
  have r3 := pe_callTy (pos := q1) (p := p6) (cr_bi hA hu .int (fun _ => hc)) gi mi b4.1 (pa_cons (pe_ix (pos := p9) (ix_sub (by omega)) (pe_var (pos := p7) n0 v0 d0 e0) (pe_var (pos := p8) n1 v1 d1 e1) (plainIx_of rfl)) pa_nil rfl) b4.2.1 b4.2.2 rfl rfl
  have r4 := pe_op (pos := q6) op_add (pe_op (pos := q4) op_mul (pe_int (i := c1) (j := k1) (pos := q2)) (pe_var (pos := q3) n1 v1 d1 e1)) (pe_int (i := c2) (j := k2) (pos := q5))
  refine (pe_ifExp r2 r3 r4).of fun σ H Q ⟨a, ns, j, h0, h1, hs, hj, hj2, hc1, hq⟩ => ?_
  refine ⟨.int j, h1, .ref a, h0, .inl ⟨.ref a, (ns.map V.int).length, rfl, .inl ⟨_, hs, rfl⟩, ?_⟩⟩
  refine ⟨_, _, rfl, rfl, _, rfl, ?_⟩
  by_cases hlt : j < ((ns.map V.int).length : Int)
  · have e : decide (j < ((ns.map V.int).length : Int)) = true := decide_eq_true hlt
    show (if decide (j < ((ns.map V.int).length : Int)) = true then tCB _ _ σ H Q else _)
    rw [if_pos e]
    have hl : j.toNat < ns.length := by rw [List.length_map] at hlt; omega
    have ha : atI (ns.map V.int) j = some (.int ns[j.toNat]) := by
      have hx : ixN (ns.map V.int).length j = some j.toNat := by
        unfold ixN
        rw [if_pos hj, if_pos hlt]
      unfold atI
      rw [hx]
      simp [List.getElem?_map, List.getElem?_eq_getElem hl]
    exact ⟨_, h0, _, h1, .inl (.inl ⟨a, _, j, _, rfl, rfl, hs, ha, .inl ⟨_, rfl, hq _⟩⟩)⟩
  · have e : ¬ decide (j < ((ns.map V.int).length : Int)) = true := by rw [decide_eq_true_eq]; exact hlt
    show (if decide (j < ((ns.map V.int).length : Int)) = true then _ else tOp _ _ _ σ H Q)
    rw [if_neg e]
    exact ⟨.int j, h1, c1, j, rfl, rfl, .inl hc1, _, _, rfl, rfl, hq _⟩
end
/-- _law_spins: its first statement by hand, the rest by its data -/
theorem spins_of {G : Gt} {pr : Pr} {g : Gs} {P : Program} {w : World} {K : PySem.W.Frag} {mg : Str → Option Value} {base : Heap} {k n nn : Nat} {f : Addr} {name qual : Str} {params : Arguments} {e0 : Expr} {rest : List Stmt} {scope : Scope} {dV kV doc pm cdv ct oc : Value} {an od : Option Addr}
    {osl : Array (Option Value)} {nS nJ nC nG : Str} {px p0 : Pos} {C : Ct} {ib : List IS} (lk : K.lookup f = some ⟨oc, od, .func (PySem.W.fnOf name qual params (.Assign [.Name nC px] e0 p0 :: rest) scope dV kV doc pm an cdv ct), osl⟩) (hcd : PySem.W.codeIn K cdv qual = true) (S : FnScope [nS, nJ, nC, nG] [nS, nJ] scope)
    (M : MdOk G pr g k (4 * k) P w K mg base) (e1 : C.sc = scope) (e2 : C.N = [nS, nJ, nC, nG]) (fx : C.fx = none) (sp : ∀ e, C.sp e = none) (hl : C.lam = false) (hib : (cmN G n).Ss C rest = some ib) (hsw : ∀ env, swapsWith e0 (some (.Name nC px)) p0.line env = pure false) (hlc : scope.names.lookup nC = some .local)
    (hcell : ∀ X : Cx, X.prog = P → X.w = w → X.K = K → X.mg = mg → X.base = base → X.A.guards = some [] → X.A.units + 66 < cLine → X.calm = true → X.N = [nS, nJ, nC, nG] → X.env.scope = scope →
      PE X e0 (fun σ H Q => ∃ (a : Addr) (ns : List Int) (j : Int), σ[0]? = some (some (.ref a)) ∧ σ[1]? = some (some (.int j)) ∧ SqL X.K H a (ns.map V.int) ∧ 0 ≤ j ∧ j < 10 ∧ ∀ x : Int, Q (.int x) H))
    (hR : ∀ (x j : Int), 0 ≤ j → j < 10 → ∃ a b c : Int, (evN (pr.cf (callF pr k) noThunk noAct []) (hbF (pr.cf (callF pr k) noThunk noAct)) nn).Ss ib [none, some (.int j), some (.int x), none] [] = .ok (.rt (.obj 0), [.lst [.int a, .int b, .int c]])) :
    FnG P w K mg base (L2.CX P w) (4 * k + 4) f (PySem.W.fnOf name qual params (.Assign [.Name nC px] e0 p0 :: rest) scope dV kV doc pm an cdv ct) [nS, nJ] (spS g) := by
  refine fn_ofG (k := 4 * k + 3) lk hcd S (fun vs H Q E ⟨a, ns, j, e, _⟩ => by rw [e] <;> rfl) fun A outer s H vs Q E hA hr ⟨a, ns, j, e, hs, j0, j1, ht, hq⟩ => ?_
  subst e
  have O := ctOf (outer := outer) (s := s) (H := H) (E := E) (name := name) (th := noThunk) M S e1 e2 fx sp hA hr (fun h => by rw [hl] at h; cases h)
  have R := (cm_ok G pr g k (4 * k) n).Ss hib O nn
  have c0 := hcell _ rfl rfl rfl rfl rfl O.gd O.un rfl rfl rfl
  refine ⟨_, pss_cons (ps_set (i := 2) (by rw [← e2]; exact O.nd) rfl (.inl hlc) c0 (hsw _) (.inl rfl)) R, a, ns, j, rfl, rfl, ?_, j0, j1, fun x => ?_⟩
  · rw [M.hK]; exact hs
  · obtain ⟨x1, x2, x3, er⟩ := hR x j j0 j1
    refine ⟨[], [none, some (.int j), some (.int x), none], [], ⟨⟨rfl, fun i u e => ?_⟩, ⟨ht, rfl, by simp, fun n u e => by simp at e⟩, ⟨fun p hp => (nomatch hp), trivial⟩⟩, ?_⟩
    · match i, e with
      | 1, e => cases e; exact ⟨_, rfl, rfl⟩
      | 2, e => cases e; exact ⟨_, rfl, rfl⟩
      | i + 3, e => cases i with
        | zero => cases e
        | succ i => simp at e
    · rw [er]
      intro m' H' l y v rv
      obtain ⟨p, rfl, hn⟩ := rv
      obtain ⟨q, ho, b1, b2, ys, b3, b4⟩ := y.at_ 0 _ rfl
      rw [hn] at b1
      cases b1
      have hm : m' = [p] := by
        have e : m'.length = 1 := y.len.symm
        match m', e, hn with
        | [p'], _, hn => cases hn; rfl
      subst hm
      obtain ⟨_, _, rfl, y1, _, _, rfl, y2, _, _, rfl, y3, y4⟩ := b4
      cases y1
      cases y2
      cases y3
      cases y4
      exact hq H' p _ _ _ l y.tab (by rw [b2, b3])
end Rf
set_option maxHeartbeats 4000000
namespace Rf
open PySem PySem.Spec PyProof.Rows L2 LamX RfE
/-! ### a law's end where the promise holds of the caller's place alone -/
/-- what is tracked at the law's call -/
def hpL (K : PySem.W.Frag) (a : Addr) (vs : List Value) (ns : List Int) (ts : List Addr) : Hp := fun b => if b ∈ ts then some (.tbl #[]) else if b = a ∧ K.lookup a = none then some (.frz { cls := .type "list", data := .seq vs.toArray } (.lst (ns.map V.int))) else none
section
variable {P : Program} {w : World} {K : PySem.W.Frag} {mg mb : Str → Option Value} {a : Addr} {cs : List (Addr × Addr)} {s₁ : Shared} {vs : List Value} {ns : List Int} {ts : List Addr}
theorem hpL_tab {b : Addr} (h : b ∈ ts) : hpL K a vs ns ts b = some (.tbl #[]) := if_pos h
theorem hpL_not {b : Addr} (h : b ∉ ts) (h2 : b ≠ a) : hpL K a vs ns ts b = none := by
  unfold hpL
  rw [if_neg h, if_neg (fun z => h2 z.1)]
theorem hpL_cases (b : Addr) : (b ∈ ts ∧ hpL K a vs ns ts b = some (.tbl #[])) ∨ (b ∉ ts ∧ b = a ∧ K.lookup a = none ∧ hpL K a vs ns ts b = some (.frz { cls := .type "list", data := .seq vs.toArray } (.lst (ns.map V.int)))) ∨ (b ∉ ts ∧ hpL K a vs ns ts b = none) := by
  unfold hpL
  by_cases h : b ∈ ts
  · exact .inl ⟨h, if_pos h⟩
  · rw [if_neg h]
    by_cases h2 : b = a ∧ K.lookup a = none
    · exact .inr (.inl ⟨h, h2.1, h2.2, if_pos h2⟩)
    · exact .inr (.inr ⟨h, if_neg h2⟩)
theorem hpL_sq (hk : K.In s₁.heap) (ha : s₁.heap.get? a = some { cls := .type "list", data := .seq vs.toArray }) (hi : IntsAre vs ns) (hl : ns.length ≤ sizeLine) (na : a ∉ ts) : SqL K (hpL K a vs ns ts) a (ns.map V.int) := by
  cases h : K.lookup a with
  | none => exact .inl (.inr ⟨_, by unfold hpL; rw [if_neg na, if_pos ⟨rfl, h⟩]⟩)
  | some o =>
    have e := hk a o h
    rw [ha] at e
    cases e
    exact .inr ⟨_, vs.toArray, _, h, rfl, rfl, rfl, by rw [List.size_toArray, hi.length]; exact hl, by simpa using vals_ints hi⟩
theorem hpL_ok (ha : s₁.heap.get? a = some { cls := .type "list", data := .seq vs.toArray }) (hi : IntsAre vs ns) (hl : ns.length ≤ sizeLine) (hT : ∀ b ∈ ts, s₁.heap.get? b = some { cls := .none, data := .fields #[] }) : HOk P w (hpL K a vs ns ts) s₁.heap := fun b u e => by
  rcases hpL_cases (K := K) (a := a) (vs := vs) (ns := ns) (ts := ts) b with ⟨h, q⟩ | ⟨_, rfl, _, q⟩ | ⟨_, q⟩
  · rw [q] at e
    cases e
    exact hT b h
  · rw [q] at e
    cases e
    exact ⟨ha, by rw [List.length_map]; exact hl, vs, _, vals_ints hi, ha⟩
  · rw [q] at e
    cases e
/-- the call of the law, by a promise that holds where no text is being shown -/
theorem law_callG {CX : CXT} {k : Nat} {fa : Addr} {fd : FuncData} {x : Str} {sp : Sp} (KX : K.In s₁.heap) (hns : s₁.heap.Ns mainGlobals mg) (hb : s₁.heap.Ns builtinsNs mb) (hbb : ∀ x : Str, x ≠ "__name__" → mb x = bootBuiltins x) (hlim : s₁.heap.NoLimit) (hg : s₁.gens = #[])
    (hT : ∀ p ∈ cs, s₁.heap.get? p.2 = some { cls := .none, data := .fields #[] }) (nT : ∀ p ∈ cs, K.lookup p.2 = none) (C : ∀ p ∈ cs, PySem.W.CodeHd s₁.heap p.1 p.2)
    (hbm : ∃ (bm : Addr) (ob : Obj), mg "__builtins__" = some (.ref bm) ∧ bm ≠ builtinsNs ∧ s₁.heap.get? bm = some ob ∧ ob.cls = .type "module" ∧ ob.dict = some builtinsNs ∧ ob.data = .plain)
    (ha : s₁.heap.get? a = some { cls := .type "list", data := .seq vs.toArray }) (hi : IntsAre vs ns) (hl : ns.length ≤ sizeLine) (hr : Room k callerA)
    (F : ∀ base : Heap, K.In base → base.Ns mainGlobals mg → (∀ p ∈ cs, TabB base mg p.1 p.2) → FnG P w K mg base CX k fa fd [x] sp) (hbind : ∀ (s : Shared) (u : Value), BindsTo s fd ⟨[u], []⟩ [(x, u)])
    (hsp : ∀ H : Hp, (∀ p ∈ cs, H p.2 = some (.tbl #[])) → SqL K H a (ns.map V.int) → sp [.ref a] H (fun v _ => v = .bl true) fun _ _ _ => False)
    (hCX : ∀ H e s', CX [] H s₁ (fun _ _ _ => False) e s' → False) :
    codeAny (model P w) callerA (.call (.ref fa) ⟨[.ref a], []⟩) (fun r s' => r = .ok (.ret (.bool true)) ∧ OldK s₁.heap s'.heap ∧ s'.os = s₁.os ∧ AllBare s'.gens) s₁ := by
  generalize hts : cs.map (·.2) = ts
  have inT : ∀ p ∈ cs, p.2 ∈ ts := fun p hp => by rw [← hts]; exact List.mem_map.mpr ⟨p, hp, rfl⟩
  have ofT : ∀ b ∈ ts, ∃ p ∈ cs, p.2 = b := fun b h => by rw [← hts] at h; exact List.mem_map.mp h
  have isT : ∀ b ∈ ts, s₁.heap.get? b = some { cls := .none, data := .fields #[] } := fun b h => let ⟨p, hp, e⟩ := ofT b h; e ▸ hT p hp
  have na : a ∉ ts := fun h => by
    have e := isT a h
    rw [ha] at e
    cases congrArg Obj.data (Option.some.inj e)
  generalize hH : hpL K a vs ns ts = H
  have hok : HOk P w H s₁.heap := hH ▸ hpL_ok ha hi hl isT
  have hS : SqL K H a (ns.map V.int) := hH ▸ hpL_sq KX ha hi hl na
  have tb : ∀ b ∈ ts, H b = some (.tbl #[]) := fun b h => hH ▸ hpL_tab h
  -- what is neither a list nor an empty row of fields is not tracked
  have off : ∀ {b : Addr} {o : Obj}, s₁.heap.get? b = some o → (∀ xs n, o.data ≠ .seq xs n) → o.data ≠ .fields #[] → H b = none := fun {b o} e h1 h2 => by
    subst hH
    refine hpL_not (fun h => ?_) fun h => ?_
    · rw [isT b h] at e; cases e; exact h2 rfl
    · rw [h, ha] at e; cases e; exact h1 _ _ rfl
  have up : ∀ {b : Addr} {o : Obj}, s₁.heap.get? b = some o → H b = none → (hidT s₁.heap H).get? b = some o := fun e n => hidT_get e n
  have ns_up : ∀ {b : Addr} {m : Str → Option Value}, s₁.heap.Ns b m → (hidT s₁.heap H).Ns b m := fun {b m} ⟨o, es, ep, e, d, r⟩ =>
    ⟨o, es, ep, up e (off e (fun _ _ z => by rw [d] at z; cases z) fun z => by rw [d] at z; cases z), d, r⟩
  have kb : K.In (hidT s₁.heap H) := fun b o e => up (KX b o e) (by
    subst hH
    rcases hpL_cases (K := K) (a := a) (vs := vs) (ns := ns) (ts := ts) b with ⟨h, _⟩ | ⟨_, rfl, h, _⟩ | ⟨_, q⟩
    · obtain ⟨p, hp, rfl⟩ := ofT b h
      rw [nT p hp] at e
      cases e
    · rw [h] at e
      cases e
    · exact q)
  have tabs : ∀ p ∈ cs, TabB (hidT s₁.heap H) mg p.1 p.2 := fun p hp => by
    have gT := hT p hp
    refine ⟨?_, ?_, fun z => ?_⟩
    · obtain ⟨o, us, file, tf, flags, tg, inF, text, tt, r0, r1, r2, r3, r⟩ := C p hp
      exact ⟨o, us, file, tf, flags, tg, inF, text, tt, up r0 (off r0 (fun _ _ z => by rw [r2] at z; cases z) fun z => by rw [r2] at z; cases z; simp at r3), r1, r2, r3, r⟩
    · obtain ⟨bm, ob, b1, b2, b3, b4, b5, b6⟩ := hbm
      refine ⟨bm, ob, b1, b2, fun z => ?_, fun z => ?_, up b3 (off b3 (fun _ _ z => by rw [b6] at z; cases z) fun z => by rw [b6] at z; cases z), b4, b5, b6⟩
      · obtain ⟨o, es, ep, e, d, _⟩ := hns
        rw [z, e] at b3
        cases b3
        rw [d] at b6
        cases b6
      · rw [z, gT] at b3
        cases b3
        cases b6
    · obtain ⟨o, es, ep, e, d, _⟩ := hns
      rw [z, gT] at e
      cases e
      cases d
  have md : L2.Mod K mg (hidT s₁.heap H) := ⟨kb, ns_up hns, ⟨mb, ns_up hb, hbb⟩, let ⟨mc, h1, h2⟩ := hlim; ⟨mc, ns_up h1, h2⟩⟩
  have e0 : Env0 P w K mg (hidT s₁.heap H) callerA [] s₁ H := ⟨rfl, md, fun b o e => of_hidT e, Nat.le_of_eq (hidT_size _ _), trivial, (fun b hb => nomatch hb), hok, .of_eq hg⟩
  refine codeAny_mono ((F _ kb (ns_up hns) tabs).run callerA [] s₁ H ⟨[.ref a], []⟩ [.ref a] [.ref a] _ _ rfl hr e0 (hbind s₁ (.ref a)) (.cons rfl .nil) (hsp H (fun p hp => tb _ (inT p hp)) hS)) fun r s' h => ?_
  match r, h with
  | .error e, h => exact (hCX H e s' h).elim
  | .ok (.ret u), h =>
    obtain ⟨v, H', os, bare, un, hok', r', q⟩ := h
    have q : v = .bl true := q
    subst q
    obtain rfl : u = Value.bool true := r'
    have old : ∀ b o, b ∉ ts → s₁.heap.get? b = some o → s'.heap.get? b = some o := fun b o nb e => by
      rcases hpL_cases (K := K) (a := a) (vs := vs) (ns := ns) (ts := ts) b with ⟨h, _⟩ | ⟨_, _, _, q⟩ | ⟨_, q⟩
      · exact absurd h nb
      · rw [hH] at q
        obtain ⟨e1, _⟩ := hok b _ q
        obtain ⟨e2, _⟩ := hok' b _ (un.frzs b _ _ q)
        rw [e] at e1
        cases e1
        exact e2
      · rw [hH] at q
        exact un.keep b o e q (fun z => nomatch z) (fun z => nomatch z)
    have more : ∀ b ∈ ts, ∃ ms : Array Value, s'.heap.get? b = some { cls := .none, data := .fields ms } := fun b h => by
      obtain ⟨ms, z⟩ := un.tbls b #[] (tb b h)
      exact ⟨_, hok' b _ z⟩
    refine ⟨rfl, ⟨fun b o e => ?_, fun b o e => ?_⟩, os, bare⟩
    · by_cases h : b ∈ ts
      · obtain ⟨ms, z⟩ := more b h
        obtain ⟨p, hp, rfl⟩ := ofT b h
        rw [hT p hp] at e
        cases e
        exact .inr (.inl ⟨((C p hp).tab (hT p hp)).isCodeTable, rfl, #[], ms, rfl, by rw [Array.empty_append]; exact z⟩)
      · exact .inl (old b o h e)
    · by_cases h : b ∈ ts
      · exact let ⟨_, z⟩ := more b h; ⟨_, z⟩
      · exact ⟨o, old b o h e⟩
end
/-- what is known of the law's promise at the head's heap h -/
def LawAtG (l : PySem.W.OpenLaw) (w : World) (K : PySem.W.Frag) (CX : CXT) (k n : Nat) (x : Str) (mg : Str → Option Value) (fa : Addr) (h : Heap) : Prop :=
  ∃ (fd : FuncData) (cs : List (Addr × Addr)) (sp : Sp), (∀ p ∈ cs, h.get? p.2 = some { cls := .none, data := .fields #[] }) ∧ (∀ p ∈ cs, K.lookup p.2 = none) ∧ (∀ p ∈ cs, PySem.W.CodeHd h p.1 p.2) ∧ (∀ (s : Shared) (u : Value), BindsTo s fd ⟨[u], []⟩ [(x, u)]) ∧
    (∀ (H : Hp) (a : Addr) (ns : List Int), (∀ p ∈ cs, H p.2 = some (.tbl #[])) → SqL K H a (ns.map V.int) → sp [.ref a] H (fun v _ => v = .bl true) fun _ _ _ => False) ∧
    ∀ base : Heap, K.In base → base.Ns mainGlobals mg → (∀ p ∈ cs, TabB base mg p.1 p.2) → FnG l.prog w K mg base CX k fa fd [x] sp
theorem walk_ofG {l : PySem.W.OpenLaw} {n k : Nat} {q : Program} {loose : List Str} {XP : (Str → Option Value) → Heap → Prop} {YP : World → Heap → Prop} {d : DefRec} {CX : World → CXT} {x : Str}
    (hn : l.most = some n) (hn2 : n ≤ sizeLine) (hdf : d.params.defaults = []) (hr : Room k callerA)
    (F : ∀ (w : World) (mg : Str → Option Value) (fa : Addr) (h : Heap), YP w h → h.Ns mainGlobals mg → mg d.name = some (.ref fa) → ∃ K : PySem.W.Frag, K.In h ∧ LawAtG l w K (CX w) k n x mg fa h)
    (hCX : ∀ (w : World) (H : Hp) (s : Shared) (e : Value) (s' : Shared), CX w [] H s (fun _ _ _ => False) e s' → False) :
    PySem.W.WalkO q loose XP YP l.row.toRowW d [] (fun f vs => PySem.call f vs) := by
  refine Att.attach_callB hn hdf fun w s₀ s₁ mg mb fa o pm cd doc a vs ns G Y ho hd hcd hmg hobj hints hlen hbits hg => ?_
  obtain ⟨K, KX, fd, cs, sp, hT, nT, C, hb, hsp, hF⟩ := F w mg fa _ Y G.T.g hmg
  exact law_callG KX G.T.g G.T.b G.T.builtins G.T.nolimit hg hT nT C G.T.bmain hobj hints (Nat.le_trans hlen hn2) hr hF hb (fun H hH hS => hsp H a ns hH hS) fun H e s' => hCX w H s₁ e s'
end Rf
set_option maxHeartbeats 4000000
namespace Rf
open PySem PySem.Spec PyProof.Rows L2 LamX RfE
theorem run_join {α β γ δ : Type} {x : Option α} {f : α → β} {f2 : α → γ} {f3 : α → δ} {a : β} {b : γ} {c : δ} (h1 : (x.map fun s => (f s, f2 s)) = some (a, b)) (h2 : (x.map fun s => f3 s) = some c) : (x.map fun s => (f s, f2 s, f3 s)) = some (a, b, c) := by
  cases x with
  | none => cases h1
  | some s =>
    have e1 := Option.some.inj h1
    have e2 := Option.some.inj h2
    have q := Prod.mk.inj e1
    have e2 : f3 s = c := e2
    show some (f s, f2 s, f3 s) = _
    rw [q.1, q.2, e2]
theorem run_three {α β γ δ : Type} {x : Option α} {f : α → β × γ × δ} {v : β × γ × δ} {c : γ} (h1 : (x.map fun s => ((f s).1, (f s).2.2)) = some (v.1, v.2.2)) (h2 : (x.map fun s => (f s).2.1) = some c) (hv : v.2.1 = c := by rfl) : (x.map fun s => f s) = some v := by
  cases x with
  | none => cases h1
  | some s =>
    have e1 := Prod.mk.inj (Option.some.inj h1)
    have e2 := Option.some.inj h2
    show some (f s) = some v
    congr 1
    refine Prod.ext e1.1 (Prod.ext ?_ e1.2)
    rw [hv]; exact e2
/-! ### the head's Hook: what is reached from the module's names, and the statics -/
abbrev Frag' := PySem.W.Frag
abbrev SpV : Type := Option (Str × Str × Arguments × FuncBody × Scope × Addr × List Str × Value × Value × Addr)
def iniA (K : Frag') (x : Str) : Addr := He.ma K (He.ga K x) "__init__"
def supO (K : Frag') (x : Str) : SpV := match K.lookup (iniA K x) with
  | some ⟨_, _, .func fd, _⟩ => some (fd.name, fd.qualname, fd.params, fd.body, fd.scope, fd.globals, fd.closure.map (·.1), fd.defaults, fd.kwdefaults, fd.builtins)
  | _ => none
/-- an __init__ as its text has it: the class, its statement -/
abbrev SupD : Type := Str × Stmt
def supV (q : Str) (d : SupD) : SpV := some ("__init__", q, defArgs d.2, .stmts (defBody d.2), defScope d.2, mainGlobals, ["__class__"], .none, .none, builtinsNs)
/-- what is reached from the module's names in n steps, each address once: those that were met stand as bits of a number -/
def metB (mask a : Nat) : Bool := Nat.beq (Nat.land 1 (Nat.shiftRight mask a)) 1
def addM : List Addr → List Addr → Nat → List Addr × Nat
  | [], acc, mask => (acc, mask)
  | a :: r, acc, mask => match metB mask a with
    | true => addM r acc mask
    | false => addM r (a :: acc) (Nat.lor mask (Nat.shiftLeft 1 a))
def refsA (g : Addr → Option Obj) : List Addr → List Addr
  | [] => []
  | a :: r => match g a with
    | some o => He.refsD o ++ refsA g r
    | none => refsA g r
def bfsM (g : Addr → Option Obj) : Nat → List Addr → Nat → List Addr
  | 0, fr, _ => fr
  | n + 1, fr, mask => match addM (refsA g fr) [] mask with
    | (new, mask2) => fr ++ bfsM g n new mask2
def asR (g : Addr → Option Obj) (n : Nat) : List Addr := cStatics :: bfsM g n [mainGlobals] (Nat.lor (Nat.shiftLeft 1 mainGlobals) (Nat.shiftLeft 1 cStatics))
abbrev KR (g : Addr → Option Obj) (n : Nat) : Frag' := He.frT g (asR g n)
abbrev AlR : Type := He.AlD × Bool × List SpV
def obsK (fn : List He.DefD) (tf : List He.Defn) (sv : List (Str × SupD)) (ex : Frag' → Bool) (g : Addr → Option Obj) (K : Frag') : AlR := (He.obsD [] fn K, ex K && He.tabsB g tf K, sv.map fun d => supO K d.2.1)
def obsR (n : Nat) (fn : List He.DefD) (tf : List He.Defn) (sv : List (Str × SupD)) (ex : Frag' → Bool) (g : Addr → Option Obj) : AlR := obsK fn tf sv ex g (KR g n)
def valR (fn : List He.DefD) (sv : List (Str × SupD)) : AlR := (He.valD fn, true, sv.map fun d => supV d.1 d.2)
structure SaysR (fn : List He.DefD) (tf : List He.Defn) (sv : List (Str × SupD)) (ex : Frag' → Bool) (h : Heap) (K : Frag') : Prop where
  d : He.SaysD [] fn K
  more : ex K = true
  hd : ∀ p ∈ tf, PySem.W.codeHdIn K (He.cT K p).1 (He.cT K p).2 = true
  out : ∀ p ∈ tf, K.lookup (He.cT K p).2 = none
  empty : ∀ p ∈ tf, h.get? (He.cT K p).2 = some { cls := .none, data := .fields #[] }
  sup : ∀ (i : Nat) (d : Str × SupD), sv[i]? = some d → supO K d.2.1 = supV d.1 d.2
theorem saysR_of {n : Nat} {fn : List He.DefD} {tf : List He.Defn} {sv : List (Str × SupD)} {ex : Frag' → Bool} {h : Heap} (e : obsR n fn tf sv ex h.get? = valR fn sv) : SaysR fn tf sv ex h (KR h.get? n) := by
  unfold obsR at e
  generalize hK : KR h.get? n = K at e
  have e1 : He.obsD [] fn K = He.valD fn := congrArg (fun z : AlR => z.1) e
  have e2 : (ex K && He.tabsB h.get? tf K) = true := congrArg (fun z : AlR => z.2.1) e
  have e3 : (sv.map fun d => supO K d.2.1) = sv.map fun d => supV d.1 d.2 := congrArg (fun z : AlR => z.2.2) e
  obtain ⟨h1, h2⟩ := He.ba e2
  have key : ∀ p ∈ tf, PySem.W.codeHdIn K (He.cT K p).1 (He.cT K p).2 = true ∧ ∃ o, h.get? (He.cT K p).2 = some o ∧ He.emptyTab o = true := fun p hp => by
    obtain ⟨h3, h4⟩ := He.ba (List.all_eq_true.mp h2 p hp)
    refine ⟨h3, ?_⟩
    cases q : h.get? (He.cT K p).2 with
    | none =>
      rw [q] at h4
      cases h4
    | some o =>
      rw [q] at h4
      exact ⟨o, rfl, h4⟩
  refine ⟨e1, h1, fun p hp => (key p hp).1, fun p hp => ?_, fun p hp => ?_, fun i d hi => ?_⟩
  · obtain ⟨_, o, q, z⟩ := key p hp
    rw [← hK] at q ⊢
    exact He.frT_none q z
  · obtain ⟨_, o, q, z⟩ := key p hp
    rw [q, He.emptyTab_eq z]
  · have e4 : (sv.map fun d => supO K d.2.1)[i]? = (sv.map fun d => supV d.1 d.2)[i]? := by rw [e3]
    rw [List.getElem?_map, List.getElem?_map, hi] at e4
    exact Option.some.inj e4
def hookR (n : Nat) (fn : List He.DefD) (tf : List He.Defn) (sv : List (Str × SupD)) (ex : Frag' → Bool) : PySem.W.Hook where
  α := AlR
  obs := fun s => obsR n fn tf sv ex s.heap.get?
  val := fun _ => valR fn sv
  says := fun _ h => ∃ K : Frag', K.In h ∧ SaysR fn tf sv ex h K
  of := fun _ _ e => ⟨_, He.frT_in, saysR_of e⟩
  keeps := fun _ _ _ ⟨K, hK, c⟩ k => ⟨K, PySem.W.Frag.In.keeps hK k, ⟨c.d, c.more, c.hd, c.out, fun p hp => k _ _ (c.empty p hp), c.sup⟩⟩
theorem obsR_eq {n : Nat} {fn : List He.DefD} {tf : List He.Defn} {sv : List (Str × SupD)} {ex : Frag' → Bool} {g : Addr → Option Obj} {s : Shared} (h : ∀ a, g a = s.heap.get? a) : obsR n fn tf sv ex g = (hookR n fn tf sv ex).obs s := by
  have e : g = s.heap.get? := funext h
  rw [e] <;> rfl
/-! ### classes -/
open PySem.W in
def supC2 (P : Program) (K : Frag') (x q : Str) (cd : Value) (cl : List (Str × Addr)) : Bool := codeIn K cd q && ((match cd with
      | .ref cda => (match K.lookup cda with
        | some ⟨_, _, .fields vs, _⟩ => (match (vs[2]? : Option Value) with
          | some (.str file _) => P.main.file == file
          | _ => false)
        | _ => false)
      | _ => false) && (match cl with
      | [(_, cc)] => (match K.lookup cc with
        | some ⟨_, _, .cell (some (.ref D)), _⟩ => decide (D = He.ga K x)
        | _ => false)
      | _ => false))
def supC (P : Program) (K : Frag') (x q : Str) : Bool := match K.lookup (iniA K x) with
  | some ⟨_, _, .func fd, _⟩ => supC2 P K x q fd.code fd.closure
  | _ => false
open PySem.W in
def supB (P : Program) (K : Frag') (x q : Str) : Bool :=
  excInitIn K (He.ga K x) SupX.idx "IndexError.__new__" && (excOver K (He.ga K x) SupX.idx && ((clsIn K (He.ga K x)).any (·.hasDict) && (He.eqO (findIn K (.ref (He.ga K x)) "__setattr__") (some (some (.builtin "object.__setattr__"))) &&
    (He.eqO (findIn K (.ref (He.ga K x)) "given") (some none) && (He.eqO (findIn K (.ref (He.ga K x)) "__init__") (some (some (.ref (iniA K x)))) && (isFn K (.ref (iniA K x)) && (He.eqO (ks_superIn K (He.ga K x) (He.ga K x) "__init__") (some (some (.builtin "IndexError.__init__"))) &&
    (decide (subIn K (.ref (He.ga K x)) (.type "IndexError") = some true) && (He.eqO (nsIn K cStatics "thirdparty.any") (some none) && (decide (mroIn K (He.ga K x) (.ref (He.ga K x)) = some true) && (!(P.main.scope.names.lookup ("super" : Str)).isSome && supC P K x q)))))))))))
theorem supB_ok {P : Program} {K : Frag'} {x q : Str} {st : Stmt} (h : supB P K x q = true) (e : supO K x = supV q (x, st)) (hq : q = "InvalidNumber.__init__")
    (ht : ∃ p1 p2 a1 a2 a3 a4 a5 a6 q1 q2 q3 q4 : Pos, defArgs st = SupX.iA p1 p2 ∧ defBody st = SupX.iB a1 a2 a3 a4 a5 a6 q1 q2 q3 q4 ∧ defScope st = SupX.iS ∧ (a3.endLine == a5.line) = true) : SupX.SupTxt P K (He.ga K x) (iniA K x) := by
  subst hq
  unfold supB at h
  obtain ⟨h1, h⟩ := He.ba h
  obtain ⟨h2, h⟩ := He.ba h
  obtain ⟨h3, h⟩ := He.ba h
  obtain ⟨h4, h⟩ := He.ba h
  obtain ⟨h5, h⟩ := He.ba h
  obtain ⟨h6, h⟩ := He.ba h
  obtain ⟨h7, h⟩ := He.ba h
  obtain ⟨h8, h⟩ := He.ba h
  obtain ⟨h9, h⟩ := He.ba h
  obtain ⟨h10, h⟩ := He.ba h
  obtain ⟨h11, h⟩ := He.ba h
  obtain ⟨h12, h⟩ := He.ba h
  obtain ⟨p1, p2, a1, a2, a3, a4, a5, a6, q1, q2, q3, q4, t1, t2, t3, t4⟩ := ht
  refine ⟨h1, h2, ?_, He.eqO_ok h4, He.eqO_ok h5, He.eqO_ok h6, h7, He.eqO_ok h8, of_decide_eq_true h9, He.eqO_ok h10, of_decide_eq_true h11, by simpa using h12, ?_⟩
  · cases z : PySem.W.clsIn K (He.ga K x) with
    | none => rw [z] at h3; cases h3
    | some cd => rw [z] at h3; exact ⟨cd, rfl, h3⟩
  · unfold supC at h
    unfold supO at e
    cases z : K.lookup (iniA K x) with
    | none => rw [z] at h; cases h
    | some o =>
      obtain ⟨oc, od, dt, osl⟩ := o
      rw [z] at h e
      cases dt with
      | func fd =>
        obtain ⟨n1, n2, n3, n4, n5, n6, n7, n8, n9, n10, n11, n12, n13, n14, n15⟩ := fd
        have e2 : (some (n1, n2, n3, n4, n5, n6, n7.map (·.1), n8, n9, n15) : SpV) = supV "InvalidNumber.__init__" (x, st) := e
        unfold supV at e2
        simp only [Option.some.injEq, Prod.mk.injEq] at e2
        obtain ⟨b1, b2, b3, b4, b5, b6, b7, b8, b9, b10⟩ := e2
        subst b1 b2 b3 b4 b5 b6 b8 b9 b10
        have h' : supC2 P K x "InvalidNumber.__init__" n13 n7 = true := h
        unfold supC2 at h'
        obtain ⟨k1, k0⟩ := He.ba h'
        obtain ⟨k2, k3⟩ := He.ba k0
        clear k0 h' h
        split at k2
        · rename_i cda
          split at k2
          · rename_i ccl cdd vs ccs y1
            split at k2
            · rename_i file tf y2
              split at k3
              · rename_i nm cc
                have b7' : nm = ("__class__" : Str) := by simpa using b7
                subst b7'
                split at k3
                · rename_i cl cld D csl y3
                  have k3 := of_decide_eq_true k3
                  subst k3
                  exact ⟨oc, od, n10, n11, n12, n14, osl, p1, p2, a1, a2, a3, a4, a5, a6, q1, q2, q3, q4, cc, cda, ccl, cdd, vs, ccs, file, tf, cl, cld, csl, t4, by rw [t1, t2, t3], k1, y1, y2, k2, y3⟩
                · cases k3
              · cases k3
            · cases k2
          · cases k2
        · cases k2
      | _ => cases h
def supFull (P : Program) (K : Frag') (x q : Str) : Bool := (He.Fa.glo x).ok K && (PySem.W.keepIn K (.ref (He.ga K x)) && (supB P K x q && (decide (PySem.W.subIn K (.ref (He.ga K x)) (.type "BaseException") = some true) && decide (PySem.W.typeIn K (.ref (He.ga K x)) = some (.type "type")))))
theorem mkF_of {P : Program} {K : Frag'} {x q : Str} {st : Stmt} {h : Heap} {mg : Str → Option Value} {Y : Cx} {kr : Nat} (hf : supFull P K x q = true) (e : supO K x = supV q (x, st)) (hq : q = "InvalidNumber.__init__")
    (ht : ∃ p1 p2 a1 a2 a3 a4 a5 a6 q1 q2 q3 q4 : Pos, defArgs st = SupX.iA p1 p2 ∧ defBody st = SupX.iB a1 a2 a3 a4 a5 a6 q1 q2 q3 q4 ∧ defScope st = SupX.iS ∧ (a3.endLine == a5.line) = true)
    (X : K.In h) (Gm : h.Ns mainGlobals mg) (su : mg "super" = none) (y1 : Y.prog = P) (y3 : Y.K = K) (y4 : Y.mg = mg) (gl : Gl Y x) (room : Room kr Y.A) (hdb : (x == ("__debug__" : Str)) = false) : MkFld Y x (He.ga K x) "given" := by
  obtain ⟨a1, a⟩ := He.ba hf
  obtain ⟨a2, a⟩ := He.ba a
  obtain ⟨a3, a⟩ := He.ba a
  obtain ⟨a4, a5⟩ := He.ba a
  subst y1 y3 y4
  exact mk_sup (X := Y) (x := x) (supB_ok a3 e hq ht) (He.glo_ok X Gm a1) a2 (raises_own (of_decide_eq_true a4) (of_decide_eq_true a5)) room su gl hdb
open PySem.W in
def fldB (K : Frag') (x f : Str) : Bool := He.eqO (findIn K (.ref (He.ga K x)) "__getattribute__") (some (some (.builtin "BaseException.__getattribute__"))) && (He.eqO (findIn K (.ref (He.ga K x)) "__getattr__") (some none) && (decide (subIn K (.ref (He.ga K x)) (.type "BaseException") = some true) && (hasDictIn K (He.ga K x) && He.eqO (findIn K (.ref (He.ga K x)) f) (some none))))
theorem fldB_ok {K : Frag'} {x f : Str} (h : fldB K x f = true) : FldF K (He.ga K x) f := by
  unfold fldB at h
  obtain ⟨h1, h⟩ := He.ba h
  obtain ⟨h2, h⟩ := He.ba h
  obtain ⟨h3, h⟩ := He.ba h
  obtain ⟨h4, h5⟩ := He.ba h
  exact ⟨He.eqO_ok h1, He.eqO_ok h2, of_decide_eq_true h3, h4, He.eqO_ok h5⟩
end Rf
set_option maxHeartbeats 800000
namespace Rf
open PySem PySem.Spec PyProof.Rows L2 LamX RfE
/-! ### what the head must tell, as one Bool; the module's facts from it -/
/-- names of defs, of classes, by their numbers -/
structure Nm where
  ds : List He.Defn
  cs : List Str
  veX : List Str
  ixX : List (Str × Str)
def Nm.d (N : Nm) (i : Nat) : He.Defn := N.ds.getD i (Str.empty, none)
def Nm.c (N : Nm) (i : Nat) : Str := N.cs.getD i Str.empty
def gsOf (N : Nm) (T : Frag' → List (Addr × Str)) (P : Program) (w : World) (K : Frag') (LS : Nat → LamD → Prop := fun _ _ => False) : Gs := ⟨K, fun i => He.fAd K (N.d i), fun j => He.ga K (N.c j), T K, P, w, LS⟩
open PySem.W in
/-- the classes of instances -/
def sclsB (K : Frag') (x : Str) : Bool := plainGet K (He.ga K x) Str.empty && (isClsIn K (He.ga K x) && (plainOver K (He.ga K x) && He.eqO (findIn K (.ref (He.ga K x)) "__setattr__") (some (some (.builtin "object.__setattr__")))))
theorem sclsB_ok {K : Frag'} {x : Str} (h : sclsB K x = true) : SlX.SCls K (He.ga K x) := by
  unfold sclsB at h
  obtain ⟨h1, h⟩ := He.ba h
  obtain ⟨h2, h⟩ := He.ba h
  obtain ⟨h3, h4⟩ := He.ba h
  exact ⟨h1, h2, h3, He.eqO_ok h4⟩
open PySem.W in
def slotB (K : Frag') (x f : Str) (i : Nat) : Bool := He.eqO (findIn K (.ref (He.ga K x)) f) (some (some (.ref (He.ma K (He.ga K x) f)))) && (He.eqO (specialIn K (.ref (He.ma K (He.ga K x) f)) "__get__") (some (some (.builtin "member_descriptor.__get__"))) &&
  (decide (takesIn K (.ref (He.ma K (He.ga K x) f)) = some true) && (decide (typeIn K (.ref (He.ma K (He.ga K x) f)) = some (.type "member_descriptor")) && (decide (slotIn K (He.ma K (He.ga K x) f) (He.ga K x) = some i) && Nat.blt i 1000))))
theorem slotB_ok {K : Frag'} {x f : Str} {i : Nat} (h : slotB K x f i = true) : ∃ p, SlX.Slot1 K (He.ga K x) f p i := by
  unfold slotB at h
  obtain ⟨h1, h⟩ := He.ba h
  obtain ⟨h2, h⟩ := He.ba h
  obtain ⟨h3, h⟩ := He.ba h
  obtain ⟨h4, h⟩ := He.ba h
  obtain ⟨h5, h6⟩ := He.ba h
  exact ⟨_, He.eqO_ok h1, He.eqO_ok h2, of_decide_eq_true h3, of_decide_eq_true h4, of_decide_eq_true h5, Nat.blt_eq.mp h6⟩
def clsB1 (N : Nm) (G : Gt) (pr : Pr) (K : Frag') (x : Str) (k : Cl) : Bool := k.prp.isEmpty && ((k.slo.isEmpty && k.mts.isEmpty) || (sclsB K x &&
  (G.fl.all (fun p => match lkN k.slo p.2 with
    | some i => slotB K x p.1 i
    | none => true) && G.mt.all fun p => match lkN k.mts p.2 with
    | some d => (He.Fa.meth x p.1).ok K && (decide (N.d d = (x, some p.1)) && Nat.blt d pr.npos)
    | none => true)))
def clsB (N : Nm) (G : Gt) (pr : Pr) (K : Frag') : Bool := (List.range pr.cls.length).all fun ci => match pr.cls[ci]? with
  | some k => clsB1 N G pr K (N.c ci) k
  | none => true
def cnB (N : Nm) (G : Gt) (pr : Pr) (K : Frag') : Bool := G.cn.all fun p => (He.Fa.glo p.1).ok K && ((He.Fa.mkr p.1).ok K && (decide (N.c p.2.1 = p.1) && (decide (N.d p.2.2 = (p.1, some ("__init__" : Str))) && Nat.blt p.2.2 pr.npos)))
def valB (N : Nm) (K : Frag') (x : Str) : Uv → Bool
  | .int i => (He.Fa.int x i).ok K
  | .str z => (He.Fa.str x z).ok K
  | .glb n => (He.Fa.glo x).ok K && decide (He.fAd K (N.d n) = He.ga K x)
  | _ => false
def exB (N : Nm) (G : Gt) (pr : Pr) (P : Program) (K : Frag') : Bool :=
  G.fns.all (fun p => (He.Fa.glo p.1).ok K && (decide (N.d p.2 = (p.1, none)) && Nat.blt p.2 pr.npos)) &&
  (G.vals.all (fun p => match pr.gv[p.2]? with
    | some u => valB N K p.1 u
    | none => false) &&
  (G.nb.all (fun x => (He.Fa.free x).ok K) &&
  (G.cl0.all (fun p => decide (N.c p.2 = p.1) && ((He.Fa.glo p.1).ok K && (He.Fa.exc p.1).ok K)) &&
  (G.hn.all (fun p => decide (N.c p.2 = p.1) && ((He.Fa.glo p.1).ok K && (List.range pr.ncl).all fun i => decide (PySem.W.exmOne K (.ref (He.ga K (N.c i))) (.ref (He.ga K p.1)) = some (pr.sup i p.2)))) &&
  (G.th.all (fun p => (He.Fa.glo p.1).ok K && (decide (N.d p.2 = (p.1, none)) && PySem.W.keepIn K (.ref (He.ga K p.1)))) && (clsB N G pr K && cnB N G pr K))))))
theorem lookup_mem' {α : Type} {x : Str} {b : α} : ∀ {l : List (Str × α)}, l.lookup x = some b → (x, b) ∈ l
  | [], h => by simp at h
  | (k, v) :: t, h => by
    rw [List.lookup_cons] at h
    split at h
    · rename_i e
      rw [← eq_of_beq e]
      cases h
      exact List.mem_cons_self
    · exact List.mem_cons_of_mem _ (lookup_mem' h)
theorem lkN_nil {n : Nat} {l : List (Nat × Nat)} {d : Nat} (h : lkN l n = some d) : l.isEmpty = false := by
  cases l with
  | nil => cases h
  | cons _ _ => rfl
theorem clsB_ok {LS : Nat → LamD → Prop} {N : Nm} {G : Gt} {pr : Pr} {T : Frag' → List (Addr × Str)} {P : Program} {w : World} {K : Frag'} (h : clsB N G pr K = true) : ClsOk pr (gsOf N T P w K LS) G.fl G.mt K := by
  have key : ∀ (ci : Nat) (k : Cl), pr.cls[ci]? = some k → clsB1 N G pr K (N.c ci) k = true := fun ci k e => by
    have q := List.all_eq_true.mp h ci (List.mem_range.mpr (List.getElem?_eq_some_iff.mp e).1)
    simp only [e] at q
    exact q
  have key2 : ∀ (ci : Nat) (k : Cl), pr.cls[ci]? = some k → k.slo.isEmpty = false ∨ k.mts.isEmpty = false → sclsB K (N.c ci) = true ∧ (G.fl.all (fun p => match lkN k.slo p.2 with
    | some i => slotB K (N.c ci) p.1 i
    | none => true) = true) ∧ (G.mt.all fun p => match lkN k.mts p.2 with
    | some d => (He.Fa.meth (N.c ci) p.1).ok K && (decide (N.d d = (N.c ci, some p.1)) && Nat.blt d pr.npos)
    | none => true) = true := fun ci k e n => by
    obtain ⟨_, q⟩ := He.ba (key ci k e)
    rw [Bool.or_eq_true] at q
    rcases q with q | q
    · obtain ⟨q1, q2⟩ := He.ba q
      rcases n with n | n
      · rw [q1] at n; cases n
      · rw [q2] at n; cases n
    · obtain ⟨q1, q⟩ := He.ba q
      obtain ⟨q2, q3⟩ := He.ba q
      exact ⟨q1, q2, q3⟩
  refine ⟨fun ci k f i x e1 e2 e3 => ?_, fun ci k f d e1 e2 => ?_, fun ci k mm d x e1 e2 e3 => ?_⟩
  · obtain ⟨q1, q2, _⟩ := key2 ci k e1 (.inl (lkN_nil e2))
    have q := List.all_eq_true.mp q2 _ (lookup_mem' e3)
    simp only [e2] at q
    exact ⟨sclsB_ok q1, slotB_ok q⟩
  · obtain ⟨q, _⟩ := He.ba (key ci k e1)
    rw [lkN_nil e2] at q
    cases q
  · obtain ⟨q1, _, q3⟩ := key2 ci k e1 (.inr (lkN_nil e2))
    have q := List.all_eq_true.mp q3 _ (lookup_mem' e3)
    simp only [e2] at q
    obtain ⟨m1, q⟩ := He.ba q
    obtain ⟨m2, m3⟩ := He.ba q
    have m2 := of_decide_eq_true m2
    refine ⟨sclsB_ok q1, ?_, Nat.blt_eq.mp m3⟩
    show Meth K (He.ga K (N.c ci)) x (He.fAd K (N.d d))
    rw [m2]
    exact He.meth_ok m1
theorem cnB_ok {LS : Nat → LamD → Prop} {N : Nm} {G : Gt} {pr : Pr} {T : Frag' → List (Addr × Str)} {P : Program} {w : World} {K : Frag'} {h : Heap} {mg : Str → Option Value} (X : K.In h) (Gm : h.Ns mainGlobals mg) (hc : cnB N G pr K = true) {x : Str} {ci d : Nat} (e : G.cn.lookup x = some (ci, d)) :
    mg x = some (.ref ((gsOf N T P w K LS).cl ci)) ∧ L2.Mk K ((gsOf N T P w K LS).cl ci) ((gsOf N T P w K LS).ad d) ∧ d < pr.npos := by
  obtain ⟨a1, q⟩ := He.ba (List.all_eq_true.mp hc _ (lookup_mem' e))
  obtain ⟨a2, q⟩ := He.ba q
  obtain ⟨a3, q⟩ := He.ba q
  obtain ⟨a4, a5⟩ := He.ba q
  have a3 : N.c ci = x := of_decide_eq_true a3
  have a4 : N.d d = (x, some ("__init__" : Str)) := of_decide_eq_true a4
  refine ⟨?_, ?_, Nat.blt_eq.mp a5⟩
  · show mg x = some (.ref (He.ga K (N.c ci)))
    rw [a3]
    exact He.glo_ok X Gm a1
  · show L2.Mk K (He.ga K (N.c ci)) (He.fAd K (N.d d))
    rw [a3, a4]
    exact He.mkr_ok a2
section
variable {N : Nm} {G : Gt} {pr : Pr} {P : Program} {w : World} {K : Frag'} {T : Frag' → List (Addr × Str)} {mg : Str → Option Value} {h : Heap} {base : Heap}
/-- the defs are told apart -/
theorem st_of {LS : Nat → LamD → Prop} (ex : exB N G pr P K = true) (X : K.In h) (Gm : h.Ns mainGlobals mg) (G0 : Gt) (g0 : G0 = { G with th := [], lams := [] }) (hfl : ∀ i f, pr.fld i f = true → FldF K (He.ga K (N.c i)) f)
    (hdb : ∀ p ∈ G.cl0, (p.1 == ("__debug__" : Str)) = false)
    (hcl1 : ∀ x j f, G.cl1.lookup x = some (j, f) → ∀ (kr : Nat) (Y : Cx), Y.prog = P → Y.w = w → Y.K = K → Y.mg = mg → Y.base = base → Gl Y x → Room kr Y.A → MkFld Y x (He.ga K (N.c j)) f)
    (df : ∀ f, f < pr.npos → DfOk G pr (gsOf N T P w K LS) f P w K mg base) (th : ∀ x f, G.th.lookup x = some f → ThD G0 pr (gsOf N T P w K LS) f x P w K mg base)
    (kw : ∀ x f n y, G.kw.lookup x = some (f, n, y) → mg x = some (.ref (He.fAd K (N.d f))) ∧ KdOk G pr (gsOf N T P w K LS) f n y P w K mg base)
    (kwv : ∀ f n y, kwN pr.kws f = some (n, y) → KdOk G pr (gsOf N T P w K LS) f n y P w K mg base) (kd : ∀ x f dus, G.kd.lookup x = some (f, dus) → mg x = some (.ref (He.fAd K (N.d f))) ∧ DdOk G pr (gsOf N T P w K LS) f dus P w K mg base)
    (lam : ∀ j F, LS j F ↔ LSof G j F) (lmd : ∀ np ib j, (np, ib, j) ∈ G.lams → pr.defs[j]? = some (.code np np [.ret ib])) : StOk G0 G pr (gsOf N T P w K LS) P w K mg base := by
  unfold exB at ex
  obtain ⟨h1, ex⟩ := He.ba ex
  obtain ⟨h2, ex⟩ := He.ba ex
  obtain ⟨h3, ex⟩ := He.ba ex
  obtain ⟨h4, ex⟩ := He.ba ex
  obtain ⟨h6, ex⟩ := He.ba ex
  obtain ⟨h8, ex⟩ := He.ba ex
  obtain ⟨h9, h10⟩ := He.ba ex
  have nb : ∀ x, x ∈ G.nb → mg x = none := fun x hx => He.free_ok X Gm (List.all_eq_true.mp h3 x hx)
  refine ⟨g0, rfl, rfl, rfl, clsB_ok h9, fun x ci d e => cnB_ok X Gm h10 e, fun x f e => ?_, fun x j e => ?_, nb, fun x j e kr Y y1 y2 y3 y4 y5 gl room => ?_, fun x j f e kr Y => hcl1 x j f e kr Y, fun x j e => ?_, fun i f e => hfl i f e, df, th, kw, kwv, kd, lam, lmd⟩
  · obtain ⟨a, b⟩ := He.ba (List.all_eq_true.mp h1 _ (lookup_mem' e))
    obtain ⟨b, c⟩ := He.ba b
    have b := of_decide_eq_true b
    refine ⟨?_, Nat.blt_eq.mp c⟩
    show mg x = some (.ref (He.fAd K (N.d f)))
    rw [b]
    exact He.glo_ok X Gm a
  · have a := List.all_eq_true.mp h2 _ (lookup_mem' e)
    simp only at a
    split at a
    · rename_i u eu
      cases u with
      | int i =>
        obtain ⟨t, q⟩ := He.int_ok X Gm (show (He.Fa.int x i).ok K = true from a)
        exact ⟨_, .int i, _, eu, fun _ _ => rfl, q, ⟨t, rfl⟩⟩
      | str z =>
        obtain ⟨t, q⟩ := He.str_ok X Gm (show (He.Fa.str x z).ok K = true from a)
        exact ⟨_, .str z, _, eu, fun _ _ => rfl, q, ⟨t, rfl⟩⟩
      | glb n =>
        obtain ⟨a, b⟩ := He.ba (show ((He.Fa.glo x).ok K && decide (He.fAd K (N.d n) = He.ga K x)) = true from a)
        have b := of_decide_eq_true b
        refine ⟨_, .ref (He.ga K x), _, eu, fun _ _ => ?_, He.glo_ok X Gm a, rfl⟩
        show V.ref (He.ga K x) = .ref (He.fAd K (N.d n))
        rw [b]
      | _ => cases a
    · cases a
  · have m := lookup_mem' e
    obtain ⟨b, a⟩ := He.ba (List.all_eq_true.mp h4 _ m)
    obtain ⟨a, c⟩ := He.ba a
    have b := of_decide_eq_true b
    subst y4 y3
    obtain ⟨c1, c2, c3, c4⟩ := He.exc_ok c
    have q := mk_plain (X := Y) (x := x) F.excBase_ValueError c1 (He.glo_ok X Gm a) c2 (raises_own c3 c4) gl (hdb _ m)
    show MkPlain Y x (He.ga Y.K (N.c j))
    rw [b]
    exact q
  · have m := lookup_mem' e
    obtain ⟨b, a⟩ := He.ba (List.all_eq_true.mp h6 _ m)
    obtain ⟨a, c⟩ := He.ba a
    have b := of_decide_eq_true b
    refine ⟨?_, fun i hi => ?_⟩
    · show mg x = some (.ref (He.ga K (N.c j)))
      rw [b]
      exact He.glo_ok X Gm a
    · have d := of_decide_eq_true (List.all_eq_true.mp c i (List.mem_range.mpr hi))
      show PySem.W.exmOne K (.ref (He.ga K (N.c i))) (.ref (He.ga K (N.c j))) = _
      rw [b]
      exact d
theorem ex_nb (ex : exB N G pr P K = true) (X : K.In h) (Gm : h.Ns mainGlobals mg) {x : Str} (hx : x ∈ G.nb) : mg x = none := by
  unfold exB at ex
  obtain ⟨h1, ex⟩ := He.ba ex
  obtain ⟨h2, ex⟩ := He.ba ex
  obtain ⟨h3, ex⟩ := He.ba ex
  exact He.free_ok X Gm (List.all_eq_true.mp h3 x hx)
theorem ex_th (ex : exB N G pr P K = true) (X : K.In h) (Gm : h.Ns mainGlobals mg) {x : Str} {f : Nat} (e : G.th.lookup x = some f) : mg x = some (.ref (He.ga K x)) ∧ N.d f = (x, none) := by
  unfold exB at ex
  obtain ⟨h1, ex⟩ := He.ba ex
  obtain ⟨h2, ex⟩ := He.ba ex
  obtain ⟨h3, ex⟩ := He.ba ex
  obtain ⟨h4, ex⟩ := He.ba ex
  obtain ⟨h6, ex⟩ := He.ba ex
  obtain ⟨h8, ex⟩ := He.ba ex
  obtain ⟨a, b⟩ := He.ba (List.all_eq_true.mp h8 _ (lookup_mem' e))
  obtain ⟨b, c⟩ := He.ba b
  exact ⟨He.glo_ok X Gm a, of_decide_eq_true b⟩
/-- a def of the module by the head's facts -/
theorem df_of {g : Gs} {k np ns n : Nat} {d : He.DefD} {C : Ct} {Nl ps : List Str} {ib : List IS} {fn : List He.DefD} (c : He.SaysD [] fn K) (hm : fn[k]? = some d) (hdf : d.dfl = []) (hkw : d.kwd = []) (hg : g.ad k = He.fAd K d.at_)
    (hb : ∀ (kV doc pm : Value) (an : Option Addr) (cdv ct : Value) (us : List Value), us.length = ps.length → bindArgs (PySem.W.fnOf d.name d.qual d.params d.body d.scope .none kV doc pm an cdv ct) ⟨us, []⟩ = pure (ps.zip us))
    (S : FnScope Nl ps d.scope) (hl : Nl.length = ns) (hp : ps.length = np) (hd : pr.defs[k]? = some (.code np ns ib) ∨ ∃ es, pr.defs[k]? = some (.memo np ns ib es) ∧ MemOk pr np ns ib es) (hc : (cmN G n).Ss C d.body = some ib) (c1 : C.sc = d.scope) (c2 : C.N = Nl)
    (fx : C.fx = none) (sp : ∀ e, C.sp e = none) (lam : C.lam = true → TabB base mg (He.cT K d.at_).1 (He.cT K d.at_).2 ∧ ((He.cT K d.at_).2, d.qual ++ ".<locals>." ++ "<lambda>") ∈ g.T ∧ ∀ p ∈ g.T, p.1 = (He.cT K d.at_).2 → p.2 = d.qual ++ ".<locals>." ++ "<lambda>") :
    DfOk G pr g k P w K mg base := by
  obtain ⟨fd, F⟩ := c.def_ k hm
  have e1 : d.dvs K = [] := by unfold He.DefD.dvs; rw [hdf] <;> rfl
  have e2 : d.kws K = [] := by unfold He.DefD.kws; rw [hkw] <;> rfl
  rw [e1, e2] at F
  have F : FunD K d.name d.qual d.params d.body d.scope [] [] (g.ad k) fd := by rw [hg]; exact F
  have b := FunD.bindsN F hb
  refine ⟨fd, ps, b, F.kp, .inr ⟨C, d.name, d.qual, d.body, fd.code, ?_⟩⟩
  obtain ⟨oc, od, dV, kV, doc, pm, an, cdv, ct, osl, rfl, lk, hcd, hD, hK⟩ := F.ex
  obtain rfl : dV = .none := by
    rcases hD with ⟨_, q⟩ | ⟨q, _⟩
    · exact q
    · exact absurd rfl q
  refine ⟨⟨d.params, d.scope, .none, kV, doc, pm, ct, oc, an, od, osl, Nl, np, ns, ib, n, rfl, lk, hcd, S, hl, hp, hd, hc, c1, c2⟩, fx, sp, fun hl => ?_⟩
  obtain ⟨l1, l2, l3⟩ := lam hl
  obtain ⟨ca, e⟩ := He.codeIn_ref hcd
  have lk' : K.lookup (He.fAd K d.at_) = some ⟨oc, od, .func (PySem.W.fnOf d.name d.qual d.params d.body d.scope .none kV doc pm an cdv ct), osl⟩ := by rw [← lk, hg]
  have e3 : (He.cT K d.at_).1 = ca := He.codeOf_eq lk' e
  exact ⟨_, _, l1, by rw [e3]; exact e, l2, l3⟩
/-- the same of a def with one keyword-only parameter -/
theorem kd_of {g : Gs} {k np ns n nn : Nat} {y : Str} {d : He.DefD} {C : Ct} {Nl ps : List Str} {ib : List IS} {fn : List He.DefD} (c : He.SaysD [] fn K) (hm : fn[k]? = some d) (hn : d.at_ = (d.name, none)) (hdf : d.dfl = []) (hkw : d.kwd ≠ []) (hg : g.ad k = He.ga K d.name)
    (hb : ∀ (D : Addr) (doc pm : Value) (an : Option Addr) (cdv ct : Value) (us ws : List Value), us.length = nn → ws.length = 1 → bindArgs (PySem.W.fnOf d.name d.qual d.params d.body d.scope .none (.ref D) doc pm an cdv ct) ⟨us, [y].zip ws⟩ = pure (ps.zip (us ++ ws)))
    (S : FnScope Nl ps d.scope) (hl : Nl.length = ns) (hp : ps.length = np) (hd : pr.defs[k]? = some (.code np ns ib) ∨ ∃ es, pr.defs[k]? = some (.memo np ns ib es) ∧ MemOk pr np ns ib es) (hc : (cmN G n).Ss C d.body = some ib) (c1 : C.sc = d.scope) (c2 : C.N = Nl)
    (fx : C.fx = none) (sp : ∀ e, C.sp e = none) (lam : C.lam = false) : KdOk G pr g k nn y P w K mg base := by
  obtain ⟨fd, F⟩ := c.def_ k hm
  have e1 : d.dvs K = [] := by unfold He.DefD.dvs; rw [hdf] <;> rfl
  have e2 : d.kws K ≠ [] := by
    unfold He.DefD.kws
    intro z
    exact hkw (List.map_eq_nil_iff.mp z)
  rw [e1, hn] at F
  have F : FunD K d.name d.qual d.params d.body d.scope [] (d.kws K) (g.ad k) fd := by rw [hg]; exact F
  obtain ⟨mv, B⟩ := F.kbinds0 nn [y] [] (fun us mv ws => us ++ ws) e2 (fun q hq => nomatch hq) (fun r1 _ r3 => Vals.append r1 r3) (ps := ps) fun D doc pm an cdv ct us mv ws h1 h2 h3 => by
    cases mv with
    | nil => exact hb D doc pm an cdv ct us ws h1 h3
    | cons _ _ => cases h2
  refine ⟨fd, ps, ⟨B.to, B.rel⟩, F.kp, C, d.name, d.qual, d.body, fd.code, ?_⟩
  obtain ⟨oc, od, dV, kV, doc, pm, an, cdv, ct, osl, rfl, lk, hcd, hD, hK⟩ := F.ex
  obtain rfl : dV = .none := by
    rcases hD with ⟨_, q⟩ | ⟨q, _⟩
    · exact q
    · exact absurd rfl q
  exact ⟨⟨d.params, d.scope, .none, kV, doc, pm, ct, oc, an, od, osl, Nl, np, ns, ib, n, rfl, lk, hcd, S, hl, hp, hd, hc, c1, c2⟩, fx, sp, fun h => by rw [lam] at h; cases h⟩
/-- the same of a def whose keyword-only parameters' defaults fill up -/
theorem dd_of {g : Gs} {k np ns n nn : Nat} {dus : List Uv} {d : He.DefD} {C : Ct} {Nl ps : List Str} {ib : List IS} {fn : List He.DefD} (c : He.SaysD [] fn K) (hm : fn[k]? = some d) (hn : d.at_ = (d.name, none)) (hdf : d.dfl = []) (hkw : d.kwd ≠ []) (hg : g.ad k = He.ga K d.name) (hnn : nn + d.kwd.length = ps.length)
    (hb : ∀ (D : Addr) (doc pm : Value) (an : Option Addr) (cdv ct : Value) (us ks : List Value), us.length = nn → ks.length = d.kwd.length → KwChain D ((d.kwd.map (·.1)).zip ks) (bindArgs (PySem.W.fnOf d.name d.qual d.params d.body d.scope .none (.ref D) doc pm an cdv ct) ⟨us, []⟩) (ps.zip (us ++ ks)))
    (hv : ∀ m H, VRs g m H dus ((d.kws K).map (·.2)))
    (S : FnScope Nl ps d.scope) (hl : Nl.length = ns) (hp : ps.length = np) (hd : pr.defs[k]? = some (.code np ns ib) ∨ ∃ es, pr.defs[k]? = some (.memo np ns ib es) ∧ MemOk pr np ns ib es) (hc : (cmN G n).Ss C d.body = some ib) (c1 : C.sc = d.scope) (c2 : C.N = Nl)
    (fx : C.fx = none) (sp : ∀ e, C.sp e = none) (lam : C.lam = false) : DdOk G pr g k dus P w K mg base := by
  obtain ⟨fd, F⟩ := c.def_ k hm
  have e1 : d.dvs K = [] := by unfold He.DefD.dvs; rw [hdf] <;> rfl
  have e2 : d.kws K ≠ [] := by
    unfold He.DefD.kws
    intro z
    exact hkw (List.map_eq_nil_iff.mp z)
  have e3 : (d.kws K).length = d.kwd.length := by unfold He.DefD.kws; rw [List.length_map]
  have e4 : (d.kws K).map (·.1) = d.kwd.map (·.1) := by unfold He.DefD.kws; rw [List.map_map] <;> rfl
  rw [e1, hn] at F
  have F : FunD K d.name d.qual d.params d.body d.scope [] (d.kws K) (g.ad k) fd := by rw [hg]; exact F
  obtain ⟨ds, r, B⟩ := F.binds0 (ps := ps) nn e2 (by rw [e3]; exact hnn) fun D doc pm an cdv ct us ks h1 h2 => by
    rw [e4]
    exact hb D doc pm an cdv ct us ks h1 (h2.trans e3)
  refine ⟨fd, ps, ds, _, B, r, hv, F.kp, C, d.name, d.qual, d.body, fd.code, ?_⟩
  obtain ⟨oc, od, dV, kV, doc, pm, an, cdv, ct, osl, rfl, lk, hcd, hD, hK⟩ := F.ex
  obtain rfl : dV = .none := by
    rcases hD with ⟨_, q⟩ | ⟨q, _⟩
    · exact q
    · exact absurd rfl q
  exact ⟨⟨d.params, d.scope, .none, kV, doc, pm, ct, oc, an, od, osl, Nl, np, ns, ib, n, rfl, lk, hcd, S, hl, hp, hd, hc, c1, c2⟩, fx, sp, fun h => by rw [lam] at h; cases h⟩
/-- the same of a def that calls its thunk -/
theorem th_of {G0 : Gt} {g : Gs} {k ns n : Nat} {d : He.DefD} {C : Ct} {Nl : List Str} {a : Str} {ib : List IS} {fn : List He.DefD} (c : He.SaysD [] fn K) (hm : fn[k]? = some d) (hn : d.at_ = (d.name, none)) (hq : d.qual = d.name) (hdf : d.dfl = []) (hkw : d.kwd = []) (hg : g.ad k = He.ga K d.name) (gm : mg d.name = some (.ref (g.ad k)))
    (hb : ∀ (kV doc pm : Value) (an : Option Addr) (cdv ct : Value) (us : List Value), us.length = [a].length → bindArgs (PySem.W.fnOf d.name d.qual d.params d.body d.scope .none kV doc pm an cdv ct) ⟨us, []⟩ = pure ([a].zip us))
    (S : FnScope Nl [a] d.scope) (hl : Nl.length = ns) (hd : pr.defs[k]? = some (.code 1 ns ib)) (hc : (cmN G0 n).Ss C d.body = some ib) (c1 : C.sc = d.scope) (c2 : C.N = Nl)
    (fx : C.fx = none) (sp : ∀ e, C.sp e = none) (lam : C.lam = false) (hac : C.ac = some a) (hpin : 0 ∈ C.pin) (d1 : (a == ("__debug__" : Str)) = false) (d2 : (a == ("__classdict__" : Str)) = false) : ThD G0 pr g k d.name P w K mg base := by
  obtain ⟨fd, F⟩ := c.def_ k hm
  have e1 : d.dvs K = [] := by unfold He.DefD.dvs; rw [hdf] <;> rfl
  have e2 : d.kws K = [] := by unfold He.DefD.kws; rw [hkw] <;> rfl
  rw [e1, e2, hn] at F
  have F : FunD K d.name d.qual d.params d.body d.scope [] [] (g.ad k) fd := by rw [hg]; exact F
  have b := FunD.bindsN F hb
  refine ⟨⟨fd, C, d.body, fd.code, a, b, ?_, hac, hpin, lam, d1, d2⟩, gm, F.kp⟩
  obtain ⟨oc, od, dV, kV, doc, pm, an, cdv, ct, osl, rfl, lk, hcd, hD, hK⟩ := F.ex
  obtain rfl : dV = .none := by
    rcases hD with ⟨_, q⟩ | ⟨q, _⟩
    · exact q
    · exact absurd rfl q
  rw [hq] at lk hcd
  exact ⟨⟨d.params, d.scope, .none, kV, doc, pm, ct, oc, an, od, osl, Nl, 1, ns, ib, n, by rw [hq], lk, hcd, S, hl, rfl, hd, hc, c1, c2⟩, fx, sp, fun h => by rw [lam] at h; cases h⟩
end
end Rf
set_option maxHeartbeats 4000000
namespace Rf
open PySem PySem.Spec PyProof.Rows L2 LamX RfE
/-! ### the law itself -/
/-- the two expressions of a law's text that look at the script -/
def spF (N : List Str) (S : Str) (sc : Scope) : Expr → Option IE
  | .Call (.Name x _) [.Constant (.int a) _ _, .Call (.Name y _) [.Constant (.int b) _ _, .Call (.Name z _) [.Name n _] [] _] [] _] [] _ =>
    gd (decide (a = 1) && (decide (0 < b) && (decide (x = ("max" : Str)) && (decide (y = ("min" : Str)) && (decide (z = ("len" : Str)) && decide (N[0]? = some n)))))) (some (.few b.toNat))
  | .Call (.Name x _) [.Name n _, .Name j _] [] _ => gd (decide (x = S) && (decide (N[0]? = some n) && (visB sc j && (!(j == ("__debug__" : Str)) && !(j == ("__classdict__" : Str)))))) (ob (ixOf N j) fun i => some (.spns (.var i)))
  | _ => none
def spLaw (g : Gs) : Sp := fun vs H Q _ => ∃ (a : Addr) (ns : List Int), vs = [.ref a] ∧ SqL g.K H a (ns.map V.int) ∧ Tabs g.T H ∧ ∀ H', Q (.bl true) H'
/-- all ends say True -/
def allE (r : R (Uv × List Ob)) : Bool := match leaves r with
  | some l => l.all fun p => eqU p.1 (.bl true)
  | none => false
theorem allE_ok {r : R (Uv × List Ob)} {E : XP} (h : allE r = true) : r.all (fun p => p.1 = .bl true) E := by
  unfold allE at h
  split at h
  · rename_i l e
    exact leaves_all e fun a ha => eqU_ok _ _ (List.all_eq_true.mp h a ha)
  · cases h
theorem law_of {G : Gt} {pr : Pr} {g : Gs} {P : Program} {w : World} {K : PySem.W.Frag} {mg : Str → Option Value} {base : Heap} {k n nn ns : Nat} {f fS : Addr} {fdS : FuncData} {psS : List Str} {name qual S x : Str} {params : Arguments} {body : List Stmt} {scope : Scope} {dV kV doc pm cdv ct oc : Value} {an od : Option Addr}
    {osl : Array (Option Value)} {N : List Str} {C : Ct} {ib : List IS} (lk : K.lookup f = some ⟨oc, od, .func (PySem.W.fnOf name qual params body scope dV kV doc pm an cdv ct), osl⟩) (hcd : PySem.W.codeIn K cdv qual = true) (Sc : FnScope N [x] scope) (hN : N.length = ns)
    (M : MdOk G pr g k (4 * k) P w K mg base) (e1 : C.sc = scope) (e2 : C.N = N) (fx : C.fx = none) (hac : C.ac = none) (htr : C.tr = false) (hpin : C.pin = [0]) (hsp : ∀ e i, C.sp e = some i → spF N S scope e = some i) (hib : (cmN G n).Ss C body = some ib)
    (hl : C.lam = true → ∃ cA PA, TabB base mg cA PA ∧ cdv = .ref cA ∧ (PA, qual ++ ".<locals>." ++ "<lambda>") ∈ g.T ∧ ∀ p ∈ g.T, p.1 = PA → p.2 = qual ++ ".<locals>." ++ "<lambda>")
    (FS : FnG P w K mg base (L2.CX P w) (4 * k) fS fdS psS (spS g)) (bS : L2.Binds K fdS psS []) (kS : PySem.W.keepIn K (.ref fS) = true) (gS : mg S = some (.ref fS)) (m1 : mg "max" = none) (m2 : mg "min" = none) (m3 : mg "len" = none)
    (gl : ∀ y : Str, y = "max" ∨ y = "min" ∨ y = "len" ∨ y = S → glB scope y = true) (vx : visB scope x = true) (dx : (x == ("__debug__" : Str)) = false) (cx : (x == ("__classdict__" : Str)) = false)
    (hR : allE (((evN (pr.cf (callF pr k) (thunkF pr (callF pr k)) noAct []) (hbF (pr.cf (callF pr k) (thunkF pr (callF pr k)) noAct)) nn).Ss ib (none :: List.replicate (ns - 1) none) []).close 0) = true) :
    FnG P w K mg base (L2.CX P w) (4 * k + 4) f (PySem.W.fnOf name qual params body scope dV kV doc pm an cdv ct) [x] (spLaw g) := by
  refine fn_ofG (k := 4 * k + 3) lk hcd Sc (fun vs H Q E ⟨a, ns, e, _⟩ => by rw [e] <;> rfl) fun A outer s H vs Q E hA hr ⟨a, ls, e, hs, ht, hq⟩ => ?_
  subst e
  have hN0 : N[0]? = some x := by
    have := Sc.pre
    cases N with
    | nil => cases this
    | cons y r =>
      simp at this
      rw [this] <;> rfl
  have O : CtOk G pr g k (4 * k) C (cxOf (L2.CX P w) P w K mg base N qual scope f cdv A outer s H E) (fun C d _ H' => E C d H') (qScr g a (ls.map V.int)) (pr.cf (callF pr k) (thunkF pr (callF pr k)) noAct []) (hbF (pr.cf (callF pr k) (thunkF pr (callF pr k)) noAct)) := {
    md := M
    cf := cfOk
    sc := e1.symm
    kd := Sc.kind
    nn := e2.symm
    nd := by rw [e2]; exact Sc.nd
    pin := fun p hp => by rw [hpin, show p = (0, a) from by simpa [qScr] using hp]; exact List.mem_cons_self
    cal := fun _ => ⟨rfl, hr.mono (by omega)⟩
    un := by have := hr.un; show (A.deeper _).units + 66 < _; omega
    gd := hA
    fn := fun _ _ => rfl
    tk := takes_of rfl rfl rfl rfl
    po := passes_of rfl
    lam := fun h => by
      obtain ⟨cA, PA, t1, t2, t3, t4⟩ := hl h
      exact ⟨hr, rfl, cA, PA, t1, t2, t3, t4⟩
    ac := fun a h => by rw [hac] at h; cases h
    fx := fun a i h => by rw [fx] at h; cases h
    sp := fun e i h => by
      have h := hsp e i h
      have un : (A.deeper (envOfC qual scope s.heap.objs.size f cdv)).units + 66 < cLine := by have := hr.un; omega
      unfold spF at h
      split at h
      · obtain ⟨c0, h⟩ := gd_some h
        cases h
        obtain ⟨c1, b1⟩ := He.ba c0
        obtain ⟨c2, b2⟩ := He.ba b1
        obtain ⟨c3, b3⟩ := He.ba b2
        obtain ⟨c4, b4⟩ := He.ba b3
        obtain ⟨c5, c6⟩ := He.ba b4
        clear c0 b1 b2 b3 b4
        rw [decide_eq_true_eq] at c1 c2 c3 c4 c5 c6
        rw [hN0] at c6
        injection c6 with c6
        subst c1 c3 c4 c5 c6
        obtain ⟨kk, rfl⟩ : ∃ kk : Nat, _ = (kk : Int) := ⟨_, (Int.toNat_of_nonneg (Int.le_of_lt c2)).symm⟩
        rw [show ((kk : Int)).toNat = kk from Int.toNat_natCast kk]
        exact n_few (by omega) M.hK hA un rfl rfl rfl rfl (gl_by (gl _ (.inl rfl))).1 m1 (gl_by (gl _ (.inr (.inl rfl)))).1 m2 (gl_by (gl _ (.inr (.inr (.inl rfl))))).1 m3 hN0 (vis_by vx) dx cx
      · rename_i xx _ n0 _ j _ _ _
        obtain ⟨c0, h'⟩ := gd_some h
        clear h
        obtain ⟨c1, c3⟩ := He.ba c0
        obtain ⟨c2, c3⟩ := He.ba c3
        obtain ⟨vj, c3⟩ := He.ba c3
        obtain ⟨d1, d2⟩ := He.ba c3
        clear c0
        rw [decide_eq_true_eq] at c1 c2
        rw [hN0] at c2
        injection c2 with c2
        subst c1 c2
        cases hj : ixOf N j with
        | none => rw [hj] at h'; cases h'
        | some ij =>
          rw [hj] at h'
          cases h'
          exact n_spns M.hK FS (takes_of rfl rfl rfl rfl) hA (hr.mono (by omega)) (gl_by (gl _ (.inr (.inr (.inr rfl))))).1 gS kS bS (gl_by (X := cxOf (L2.CX P w) P w K mg base N qual scope f cdv A outer s H E) (gl _ (.inr (.inr (.inr rfl))))).2 hN0 (vis_by vx) dx cx rfl (n_var (ixOf_get hj) (vis_by vj) (by simpa using d1) (by simpa using d2))
      · cases h
    tr := fun h => by rw [htr] at h; cases h }
  refine ⟨_, (cm_ok G pr g k (4 * k) n).Ss hib O nn, [], none :: List.replicate (ns - 1) none, [], ⟨⟨?_, fun i u e => ?_⟩, ⟨ht, rfl, List.nodup_nil, fun n o e => by simp at e⟩, ⟨fun p hp => ?_, Scr.of hs⟩⟩, ?_⟩
  · unfold L2.start
    rw [hN]
    simp
  · cases i with
    | zero => simp at e
    | succ i =>
      rw [List.getElem?_cons_succ, List.getElem?_replicate] at e
      split at e <;> cases e
  · rw [show p = (0, a) from by simpa [qScr] using hp]
    rfl
  · refine close_ok (h := []) ⟨ht, rfl, List.nodup_nil, fun n o e => by simp at e⟩ ?_
    refine R.all_mono (fun p hp m' H' l y v rv => ?_) (fun _ _ _ _ (z : False) => z.elim) (allE_ok (E := fun _ _ _ _ => False) hR)
    rw [hp] at rv
    cases rv
    exact hq H'
end Rf
set_option maxHeartbeats 4000000
namespace Rf
open PySem PySem.Spec PyProof.Rows L2 LamX RfE
/-! ### an evaluation in pieces -/
def lvN {α : Type} (lv : Nat → Option (List α)) : Nat → Option (List α)
  | 0 => some []
  | n + 1 => match lvN lv n with
    | none => none
    | some l => match lv n with
      | none => none
      | some l' => some (l ++ l')
def lvA {α : Type} : R α → Option (List α)
  | .ok a => some [a]
  | .exc .. => none
  | .draw k f => lvN (fun i => lvA (f i)) k
  | .fail => none
theorem lvN_mem {α : Type} {lv : Nat → Option (List α)} : ∀ {n i : Nat} {l : List α}, lvN lv n = some l → i < n → ∃ l', lv i = some l' ∧ ∀ a ∈ l', a ∈ l
  | 0, i, l, _, hi => by omega
  | n + 1, i, l, h, hi => by
    unfold lvN at h
    split at h
    · cases h
    · rename_i l1 e1
      split at h
      · cases h
      · rename_i l2 e2
        cases h
        by_cases e : i = n
        · subst e
          exact ⟨l2, e2, fun a ha => List.mem_append_right _ ha⟩
        · obtain ⟨l', h1, h2⟩ := lvN_mem e1 (show i < n by omega)
          exact ⟨l', h1, fun a ha => List.mem_append_left _ (h2 a ha)⟩
theorem R.bind_assoc {α β γ : Type} {f : α → R β} {g : β → R γ} : ∀ {x : R α}, (x.bind f).bind g = x.bind fun a => (f a).bind g
  | .ok _ => rfl
  | .exc .. => rfl
  | .draw k q => by
    show R.draw k (fun r => ((q r).bind f).bind g) = R.draw k fun r => (q r).bind fun a => (f a).bind g
    congr
    funext r
    exact R.bind_assoc (x := q r)
  | .fail => rfl
/-- what follows the statements of pre -/
def thenSs (v : Ev) (post : List IS) (p : Fl × List Ob) : R (Fl × List Ob) := match p.1 with
  | .nx s' => v.Ss post s' p.2
  | f => .ok (f, p.2)
theorem ss_app {c : Cf} {hb : Hbt} {m : Nat} {post : List IS} : ∀ (pre : List IS) (s : Env') (h : List Ob), (evN c hb (m + 1 + pre.length)).Ss (pre ++ post) s h = ((evN c hb (m + 1 + pre.length)).Ss pre s h).bind (thenSs (evN c hb (m + 1)) post)
  | [], s, h => rfl
  | a :: r, s, h => by
    show stepSs (evN c hb (m + 1 + r.length)) (a :: (r ++ post)) s h = (stepSs (evN c hb (m + 1 + r.length)) (a :: r) s h).bind _
    unfold stepSs
    simp only [R.bind_assoc]
    congr
    funext p
    split
    · exact ss_app r _ _
    · rename_i f hf
      show R.ok (p.1, p.2) = thenSs _ post (p.1, p.2)
      unfold thenSs
      split
      · rename_i s' e
        exact absurd e (hf s')
      · rfl
/-- pieces' ends, put together -/
theorem cut_close {n : Nat} {P : Uv × List Ob → Prop} {E : XP} {f : Fl × List Ob → R (Fl × List Ob)} : ∀ {x : R (Fl × List Ob)} {l : List (Fl × List Ob)}, lvA x = some l → (∀ a ∈ l, ((f a).close n).all P E) → ((x.bind f).close n).all P E
  | .ok a, l, h, hp => by
    cases h
    exact hp a List.mem_cons_self
  | .exc .., l, h, _ => by cases h
  | .draw k q, l, h, hp => fun i hi => by
    obtain ⟨l', h1, h2⟩ := lvN_mem (show lvN (fun i => lvA (q i)) k = some l from h) hi
    exact cut_close h1 fun a ha => hp a (h2 a ha)
  | .fail, l, h, _ => by cases h
/-- all ends say True and leave the one object -/
def allS (r : R (Uv × List Ob)) : Bool := match leaves r with
  | some l => l.all fun p => eqU p.1 (.bl true) && eqH p.2 [.spn]
  | none => false
theorem allS_ok {r : R (Uv × List Ob)} {E : XP} (h : allS r = true) : r.all (fun p => p = (.bl true, [.spn])) E := by
  unfold allS at h
  split at h
  · rename_i l e
    refine leaves_all e fun a ha => ?_
    have q := List.all_eq_true.mp h a ha
    rw [Bool.and_eq_true] at q
    obtain ⟨u, hh⟩ := a
    rw [eqU_ok u _ q.1, eqH_ok hh _ q.2]
  · cases h
def headAt (pr : Pr) (k np : Nat) (pre : List IS) (s : Env') (h : List Ob) (m : Nat) : Option (List (Fl × List Ob)) := lvA ((evN (pr.cf (callF pr k) (thunkF pr (callF pr k)) noAct []) (hbF (pr.cf (callF pr k) (thunkF pr (callF pr k)) noAct)) (m + 1 + pre.length)).Ss pre s h)
def tailAt (pr : Pr) (k : Nat) (post : List IS) (m : Nat) (a : Fl × List Ob) : Bool := allS ((thenSs (evN (pr.cf (callF pr k) (thunkF pr (callF pr k)) noAct []) (hbF (pr.cf (callF pr k) (thunkF pr (callF pr k)) noAct)) (m + 1)) post a).close 1)
/-- the i-th of the states behind pre -/
def brAt (L : Option (List (Fl × List Ob))) (f : Fl × List Ob → Bool) (i : Nat) : Bool := match L with
  | some l => (match l[i]? with
    | some a => f a
    | none => false)
  | none => false
def lenAt (L : Option (List (Fl × List Ob))) : Nat := match L with
  | some l => l.length
  | none => 0
theorem big_eq : big = 999000 + 1 + 999 := by unfold big; rfl
theorem right_of {pr : Pr} {k np ns f nb : Nat} {pre post : List IS} {E : XP} (hd : pr.defs[f]? = some (.code 1 ns (pre ++ post))) (m : Nat) (hm : big = m + 1 + pre.length) (nb0 : 0 < nb) (hl : lenAt (headAt pr k 1 pre (start' ns [.obj 0]) [.spn] m) = nb) (hb : ∀ i, i < nb → brAt (headAt pr k 1 pre (start' ns [.obj 0]) [.spn] m) (tailAt pr k post m) i = true) :
    (callF pr (k + 1) f [.obj 0] [.spn]).all (fun q => q = (.bl true, [.spn])) E := by
  have un : callF pr (k + 1) f [.obj 0] [.spn] = runB (pr.cf (callF pr k) (thunkF pr (callF pr k)) noAct) 1 ns (pre ++ post) [.obj 0] [.spn] := by simp only [callF, hd]
  rw [un]
  unfold runB
  rw [if_pos (show [Uv.obj 0].length = 1 from rfl), hm, ss_app]
  cases e : headAt pr k 1 pre (start' ns [.obj 0]) [.spn] m with
  | none =>
    rw [e] at hl
    have hl : 0 = nb := hl
    omega
  | some l =>
    rw [e] at hl hb
    refine cut_close e fun a ha => ?_
    obtain ⟨i, hi, ei⟩ := List.getElem_of_mem ha
    have hl : l.length = nb := hl
    have q := hb i (by omega)
    have q : (match l[i]? with
      | some a => tailAt pr k post m a
      | none => false) = true := q
    rw [show l[i]? = some a from by rw [List.getElem?_eq_getElem hi, ei]] at q
    exact allS_ok q
end Rf
set_option maxHeartbeats 4000000
namespace Rf
open PySem PySem.Spec PyProof.Rows L2
/-! ### the two defs of every law that draw -/
def iSpin : List IS := [.ite (.cmp .Gt (.sub (.var 0) (.lit (.int 0))) (.lit (.int 0))) [.asg (.nm 2) (.bin .Mod (.bi .int [(.sub (.var 0) (.lit (.int 0)))]) (.var 1)), .put (.var 0) (.lit (.int 0)) (.bin .FloorDiv (.sub (.var 0) (.lit (.int 0))) (.var 1)), .ret (.var 2)] [], .put (.var 0) (.lit (.int 2)) (.bin .Add (.sub (.var 0) (.lit (.int 2))) (.lit (.int 1))), .asg (.nm 3) (.bin .Mod (.bi .int [(.bin .Add (.sub (.var 0) (.lit (.int 1))) (.bin .Mult (.lit (.int 49979693)) (.sub (.var 0) (.lit (.int 2)))))]) (.lit (.int 2305843009213693951))), .asg (.nm 4) (.bin .Add (.bin .Mult (.bin .Mod (.bi .int [(.bin .Add (.bin .Mult (.var 3) (.var 3)) (.bin .Mult (.lit (.int 127)) (.sub (.var 0) (.lit (.int 2)))))]) (.lit (.int 2305843009213693921))) (.lit (.int 32452867))) (.var 3)), .ret (.bin .Mod (.bi .int [(.bin .FloorDiv (.var 4) (.lit (.int 65563)))]) (.var 1))]
def iSpinsR : List IS := [.asg (.nm 3) (.bin .Mod (.bi .int [(.bi .abs [(.var 2)])]) (.bin .Pow (.bin .Pow (.lit (.int 10)) (.lit (.int 52))) (.lit (.int 6)))), .ret (.lst [(.bi .max2 [(.lit (.int 0)), (.bin .Sub (.var 3) (.bin .Pow (.lit (.int 10)) (.lit (.int 16))))]), (.bin .Add (.bin .Add (.bin .Add (.bin .Mult (.bin .Mod (.bi .int [(.var 3)]) (.lit (.int 2305843009213693907))) (.lit (.int 71))) (.bin .Mult (.lit (.int 953)) (.var 1))) (.bin .Mult (.lit (.int 41)) (.bi .int [(.cmp .Lt (.var 2) (.lit (.int 0)))]))) (.lit (.int 19))), (.lit (.int 0))])]
section
variable {c : Cf} {hb : List (Str × Uv) → List IS → Env' → List Ob → R (Fl × List Ob)} {n : Nat}
theorem evE {e : IE} {s : Env'} {h : List Ob} : (evN c hb (n + 1)).E e s h = stepE c (evN c hb n) e s h := rfl
theorem evEs {e : List IE} {s : Env'} {h : List Ob} : (evN c hb (n + 1)).Es e s h = stepEs (evN c hb n) e s h := rfl
theorem evT {e : IE} {s : Env'} {h : List Ob} : (evN c hb (n + 1)).T e s h = stepT (evN c hb n) e s h := rfl
theorem evS {e : IS} {s : Env'} {h : List Ob} : (evN c hb (n + 1)).S e s h = stepS c (evN c hb n) hb e s h := rfl
theorem evSs {e : List IS} {s : Env'} {h : List Ob} : (evN c hb (n + 1)).Ss e s h = stepSs (evN c hb n) e s h := rfl
end
theorem fmL (x m : Int) (h : 0 < m) : -18446744073709551616 < x.fmod m := Int.lt_of_lt_of_le (by decide) (Int.fmod_nonneg_of_pos x h)
theorem fmH (x m : Int) (h : 0 < m) (h2 : m ≤ 18446744073709551616) : x.fmod m < 18446744073709551616 := Int.lt_of_lt_of_le (Int.fmod_lt_of_pos x h) h2
def prS : Pr := ⟨[.code 2 5 iSpin], [], fun _ _ => false, fun _ _ => false, 0, 1, [], []⟩
theorem fmod_lt' {a t : Int} (h : 0 < t) : 0 ≤ a.fmod t ∧ a.fmod t < t := ⟨Int.fmod_nonneg_of_pos a h, Int.fmod_lt_of_pos a h⟩
theorem hS1 (a b c t : Int) (h1 : 0 < t) (h2 : t < 1073741824) (ha : 0 < a) : callF prS 1 0 [.obj 0, .int t] [.lst [.int a, .int b, .int c]] = .ok (.int (a.fmod t), [.lst [.int (a.fdiv t), .int b, .int c]]) := by
  have t0 : t ≠ 0 := by omega
  have tn : t.natAbs < 1073741824 := by omega
  simp only [callF, prS, runB, List.getElem?_cons_zero, List.length_cons, List.length_nil, if_true, Nat.reduceAdd]
  unfold big
  simp [evE, evEs, evT, evS, evSs, iSpin, stepE, stepEs, stepT, stepS, stepSs, R.bind, start', evCmp, evSub, evBin, evBi, stI, okO, atI, ixN, ha, t0, tn, setT, R.close, gc, Uv.under, Uv.unders, Ob.under]
theorem hS2 (a b c t : Int) (h1 : 0 < t) (h2 : t < 1073741824) (ha : ¬ 0 < a) : ∃ x c' : Int, callF prS 1 0 [.obj 0, .int t] [.lst [.int a, .int b, .int c]] = .ok (.int (x.fmod t), [.lst [.int a, .int b, .int c']]) := by
  have t0 : t ≠ 0 := by omega
  have tn : t.natAbs < 1073741824 := by omega
  have l1 := fun x => fmL x 2305843009213693951 (by decide)
  have l2 := fun x => fmH x 2305843009213693951 (by decide) (by decide)
  have l3 := fun x => fmL x 2305843009213693921 (by decide)
  have l4 := fun x => fmH x 2305843009213693921 (by decide) (by decide)
  refine ⟨(((b + 49979693 * (c + 1)).fmod 2305843009213693951 * (b + 49979693 * (c + 1)).fmod 2305843009213693951 + 127 * (c + 1)).fmod 2305843009213693921 * 32452867 + (b + 49979693 * (c + 1)).fmod 2305843009213693951).fdiv 65563, c + 1, ?_⟩
  simp only [callF, prS, runB, List.getElem?_cons_zero, List.length_cons, List.length_nil, if_true, Nat.reduceAdd]
  unfold big
  simp [evE, evEs, evT, evS, evSs, iSpin, stepE, stepEs, stepT, stepS, stepSs, R.bind, start', evCmp, evSub, evBin, evBi, stI, okO, atI, ixN, ha, t0, tn, setT, R.close, gc, Uv.under, Uv.unders, Ob.under, l1, l2, l3, l4]
theorem spin_all (a b c t : Int) (h1 : 0 < t) (h2 : t < 1073741824) : ∃ r a' b' c' : Int, 0 ≤ r ∧ r < t ∧ callF prS 1 0 [.obj 0, .int t] [.lst [.int a, .int b, .int c]] = .ok (.int r, [.lst [.int a', .int b', .int c']]) := by
  by_cases ha : 0 < a
  · exact ⟨_, _, _, _, (fmod_lt' h1).1, (fmod_lt' h1).2, hS1 a b c t h1 h2 ha⟩
  · obtain ⟨x, c', e⟩ := hS2 a b c t h1 h2 ha
    exact ⟨_, _, _, _, (fmod_lt' h1).1, (fmod_lt' h1).2, e⟩
theorem pw1 : ((Builtin.Int.intBits 10 : Int) * 52 ≤ 134217728) := by decide +kernel
theorem pw2 : ((Builtin.Int.intBits 10000000000000000000000000000000000000000000000000000 : Int) * 6 ≤ 134217728) := by decide +kernel
theorem pw3 : ((Builtin.Int.intBits 10 : Int) * 16 ≤ 134217728) := by decide +kernel
theorem spins_rest {cf : Cf} {hb : List (Str × Uv) → List IS → Env' → List Ob → R (Fl × List Ob)} (x j : Int) (h0 : 0 ≤ j) (h1 : j < 10) : ∃ a b c : Int, (evN cf hb 30).Ss iSpinsR [none, some (.int j), some (.int x), none] [] = .ok (.rt (.obj 0), [.lst [.int a, .int b, .int c]]) := by
  have l1 := fun x => fmL x 2305843009213693907 (by decide)
  have l2 := fun x => fmH x 2305843009213693907 (by decide) (by decide)
  have p1 := pw1
  have p2 := pw2
  have p3 := pw3
  simp only [evSs, evS, evE, evEs, iSpinsR, stepSs, stepS, stepE, stepEs, R.bind, evBin, evBi, setT]
  simp [evCmp, lim, l1, l2, p1, p2, p3, evE, evEs, stepE, stepEs, R.bind, evBin, evBi]
end Rf
set_option maxHeartbeats 4000000
namespace Rf
open PySem PySem.Spec PyProof.Rows L2 LamX RfE
/-! ### the tables of the defs with lambdas -/
def TtOf (tf : List He.Defn) (K : Frag') : List (Addr × Str) := tf.map fun d => ((He.cT K d).2, d.1 ++ ".<locals>." ++ "<lambda>")
def ndT : List (Addr × Str) → Bool
  | [] => true
  | a :: r => r.all (fun b => !Nat.beq a.1 b.1) && ndT r
theorem ndT_ok {A : Addr} {q : Str} {p : Addr × Str} : ∀ {L : List (Addr × Str)}, ndT L = true → (A, q) ∈ L → p ∈ L → p.1 = A → p.2 = q
  | [], _, h, _, _ => nomatch h
  | a :: r, nd, h1, h2, e => by
    obtain ⟨n1, n2⟩ := He.ba (show (r.all (fun b => !Nat.beq a.1 b.1) && ndT r) = true from nd)
    have far : ∀ b ∈ r, a.1 ≠ b.1 := fun b hb z => by
      have q := List.all_eq_true.mp n1 b hb
      rw [z] at q
      rw [show Nat.beq b.1 b.1 = true from Nat.beq_refl _] at q
      cases q
    rcases List.mem_cons.mp h1 with h1 | h1
    · rcases List.mem_cons.mp h2 with h2 | h2
      · rw [h2, ← h1]
      · exact absurd (by rw [← h1]; exact e.symm) (far p h2)
    · rcases List.mem_cons.mp h2 with h2 | h2
      · rw [h2] at e
        exact absurd e (far _ h1)
      · exact ndT_ok n2 h1 h2 e
abbrev LamF (base : Heap) (mg : Str → Option Value) (tf : List He.Defn) (K : Frag') (x : Str) : Prop :=
  TabB base mg (He.cT K (x, none)).1 (He.cT K (x, none)).2 ∧ ((He.cT K (x, none)).2, x ++ ".<locals>." ++ "<lambda>") ∈ TtOf tf K ∧ ∀ p ∈ TtOf tf K, p.1 = (He.cT K (x, none)).2 → p.2 = x ++ ".<locals>." ++ "<lambda>"
theorem lam_of {base : Heap} {mg : Str → Option Value} {tf : List He.Defn} {K : Frag'} {x : Str} (hT : ∀ p ∈ tf.map (He.cT K), TabB base mg p.1 p.2) (nd : ndT (TtOf tf K) = true) (hm : (x, none) ∈ tf) : LamF base mg tf K x := by
  have m : ((He.cT K (x, none)).2, x ++ ".<locals>." ++ "<lambda>") ∈ TtOf tf K := List.mem_map.mpr ⟨_, hm, rfl⟩
  exact ⟨hT _ (List.mem_map.mpr ⟨_, hm, rfl⟩), m, fun p hp e => ndT_ok nd m hp e⟩
theorem tabs_of {H : Hp} {tf : List He.Defn} {K : Frag'} (ht : ∀ p ∈ tf.map (He.cT K), H p.2 = some (.tbl #[])) : Tabs (TtOf tf K) H := fun r hr => by
  obtain ⟨d, hd, rfl⟩ := List.mem_map.mp hr
  exact TabS.nil (ht _ (List.mem_map.mpr ⟨d, hd, rfl⟩))
def gtS : Gt := { fns := [], vals := [], nb := ["int"], cl0 := [], cl1 := [], hn := [], th := [], lz := [] }
abbrev nmS : Nm := ⟨[("_law_spin", none)], [], [], []⟩
def iniS (st : Stmt) : Stmt := match st with
  | .ClassDef _ _ _ body _ .. => (body.find? fun b => match b with | .FunctionDef .. => true | _ => false).getD (.Pass ⟨0, 0, 0, 0⟩)
  | _ => .Pass ⟨0, 0, 0, 0⟩
/-- a statement of a class's body -/
def clsBody (st : Stmt) (j : Nat) : Stmt := match st with
  | .ClassDef _ _ _ body _ .. => body.getD j (.Pass ⟨0, 0, 0, 0⟩)
  | _ => .Pass ⟨0, 0, 0, 0⟩
theorem kwN_mem {f : Nat} {p : Nat × Str} : ∀ {l : List (Nat × (Nat × Str))}, kwN l f = some p → (f, p) ∈ l
  | [], h => by cases h
  | q :: r, h => by
    unfold kwN at h
    split at h
    · rename_i e
      cases h
      rw [← Nat.eq_of_beq_eq_true e]
      exact List.mem_cons_self
    · exact List.mem_cons_of_mem _ (kwN_mem h)
end Rf
set_option maxHeartbeats 4000000
namespace Rf
namespace K17
open PySem PySem.Spec PyProof.Rows L2 LamX RfE
def top (i : Nat) : Stmt := PySem.Challenge.pw_enoughsteps_k17_errors_of_ways.main.body.getD i (.Pass ⟨0, 0, 0, 0⟩)
def gt0 : Gt := { fns := ("is_integer", 0) :: ("is_within", 1) :: ("is_name", 2) :: ("require_within", 3) :: ("uses_of", 4) :: ("follows_in", 5) :: ("are_uses", 6) :: ("are_ways", 7) :: ("is_step", 8) :: ("behind_in", 9) :: ("ahead_in", 10) :: ("leading_in", 11) :: ("names_in", 12) :: ("form_fault", 13) :: ("fault_in", 14) :: ("is_chart_in", 15) :: ("require_chart", 16) :: ("require_step", 17) :: ("led_back", 18) :: ("way_in", 19) :: ("is_way_in", 20) :: ("kept_in", 21) :: ("firsts_in", 22) :: ("roads_or_through_in", 23) :: ("is_road", 24) :: ("are_apart", 25) :: ("is_closed_through", 26) :: ("is_roads_or_through_in", 27) :: ("left_goals", 28) :: ("ring_or_order_in", 29) :: ("is_ring_in", 30) :: ("is_order_in", 31) :: ("is_ring_or_order_in", 32) :: ("is_lot_in", 33) :: ("require_lot", 34) :: ("require_lot_of", 35) :: ("require_ends", 36) :: ("way", 37) :: ("is_way", 38) :: ("firsts", 39) :: ("roads_or_through", 40) :: ("is_roads_or_through", 41) :: ("ring_or_order", 42) :: ("is_ring_or_order", 43) :: ("_law_spin", 44) :: ("_law_among", 45) :: ("_law_right", 47) :: [], vals := ("MOST_LETTERS", 0) :: ("LETTERS", 1) :: ("MOST_STEPS", 2) :: ("MOST_NAMES", 3) :: ("MOST_USES", 4) :: ("MOST_WAYS", 5) :: ("LEAST_WAYS", 6) :: ("SET_SIZE", 7) :: ("ASK_SIZE", 8) :: ("SHOW_SIZE", 9) :: ("SET", 10) :: ("ASK", 11) :: ("SHOW", 12) :: ("CHART", 13) :: ("STEP", 14) :: ("NAMES", 15) :: ("UNREACHED", 16) :: ("ENDLESS", 17) :: ("ROADS", 18) :: ("THROUGH", 19) :: ("RING", 20) :: ("ORDER", 21) :: ("PAIR", 22) :: ("TRIPLE", 23) :: ("INTO", 24) :: ("OUT", 25) :: ("way", 26) :: ("firsts", 27) :: ("roads_or_through", 28) :: ("ring_or_order", 29) :: [], nb := ["len", "tuple", "list", "sorted", "all", "any", "min", "max", "abs", "int", "repr", "set", "range", "enumerate", "zip", "isinstance", "bool", "str", "super"], cl0 := [("StepError", 0), ("InvalidChart", 1), ("InvalidLot", 2)], cl1 := [("InvalidNumber", (3, "given"))], hn := [("StepError", 0), ("InvalidChart", 1), ("InvalidLot", 2), ("InvalidNumber", 3)], th := [], lz := [(378, 16), (379, 15), (380, 16), (381, 17)], vl := [(325, 17), (325, 24), (325, 31), (328, 17), (328, 24), (328, 31), (331, 19), (331, 26), (335, 19), (335, 26), (339, 19), (339, 26), (343, 19), (343, 26), (346, 19), (346, 26), (383, 73), (383, 83), (383, 93), (384, 56), (389, 108), (389, 118), (389, 128), (390, 57), (390, 68), (391, 68), (395, 81), (395, 91), (396, 56), (396, 67), (397, 67)], pn := [(318, [0]), (319, [0, 1]), (321, [0]), (322, [0, 1]), (323, [0, 2]), (326, [0, 1, 2]), (329, [0, 1, 2, 3]), (332, [0, 2]), (333, [0, 1, 2]), (336, [0, 2]), (337, [0, 1, 2]), (340, [0, 2]), (341, [0, 1, 2, 3]), (344, [0, 1]), (347, [0, 1, 2]), (382, [6]), (383, [7])], lk := [], dk := [(243, 47)], kw := [], fl := ("own_back", 0) :: ("own_chart", 1) :: ("own_kept", 2) :: ("own_start", 3) :: [], mt := ("goals", 0) :: ("is_end", 1) :: ("first_road", 2) :: ("moves", 3) :: ("second_places", 4) :: ("joined", 5) :: ("reached_without", 6) :: [], cn := [("Roads", (4, 48))], kd := [] }
def lam0 : IE := (.call 38 [(.varL 0), (.varL 1), (.varL 2), (.lit .non)])
def lam1 : IE := (.call 41 [(.varL 0), (.varL 1), (.varL 2), (.lit .non)])
def lam2 : IE := (.call 43 [(.varL 0), (.varL 1), (.lit .non)])
def lamT : List (Nat × IE × Nat) := [(3, lam0, 56), (3, lam1, 57), (2, lam2, 58)]
def gt : Gt := { gt0 with th := [("_law_met", 46)], lams := lamT }
def gvs : List Uv := [(.int (8)), (.str ⟨#[97, 98, 99, 100, 101, 102, 103, 104, 105, 106, 107, 108, 109, 110, 111, 112, 113, 114, 115, 116, 117, 118, 119, 120, 121, 122]⟩), (.int (60)), (.int (20)), (.int (4)), (.int (4)), (.int (2)), (.int (4)), (.int (3)), (.int (3)), (.str ⟨#[115, 101, 116]⟩), (.str ⟨#[97, 115, 107]⟩), (.str ⟨#[115, 104, 111, 119]⟩), (.str ⟨#[99, 104, 97, 114, 116]⟩), (.str ⟨#[115, 116, 101, 112]⟩), (.str ⟨#[110, 97, 109, 101, 115]⟩), (.str ⟨#[117, 110, 114, 101, 97, 99, 104, 101, 100]⟩), (.str ⟨#[101, 110, 100, 108, 101, 115, 115]⟩), (.str ⟨#[114, 111, 97, 100, 115]⟩), (.str ⟨#[116, 104, 114, 111, 117, 103, 104]⟩), (.str ⟨#[114, 105, 110, 103]⟩), (.str ⟨#[111, 114, 100, 101, 114]⟩), (.int (2)), (.int (3)), (.int (0)), (.int (1)), (.glb 37), (.glb 39), (.glb 40), (.glb 42)]
abbrev s0 : Stmt := top 8
def N0 : List Str := ["value"]
def c0 : Ct := ⟨defScope s0, N0, [], true, false, fun _ => true, none, none, true, fun _ => none⟩
abbrev s1 : Stmt := top 9
def N1 : List Str := ["value", "least", "most"]
def c1 : Ct := ⟨defScope s1, N1, [], true, false, fun _ => true, none, none, true, fun _ => none⟩
abbrev s2 : Stmt := top 10
def N2 : List Str := ["value", "sign"]
def c2 : Ct := ⟨defScope s2, N2, [], true, false, fun _ => true, none, none, true, fun _ => none⟩
abbrev s3 : Stmt := top 11
def N3 : List Str := ["value", "least", "most"]
def c3 : Ct := ⟨defScope s3, N3, [], true, false, fun _ => true, none, none, true, fun _ => none⟩
abbrev s4 : Stmt := top 29
def N4 : List Str := ["step"]
def c4 : Ct := ⟨defScope s4, N4, [], true, false, fun _ => true, none, none, true, fun _ => none⟩
abbrev s5 : Stmt := top 30
def N5 : List Str := ["chart", "at", "step"]
def c5 : Ct := ⟨defScope s5, N5, [], true, false, fun _ => true, none, none, true, fun _ => none⟩
abbrev s6 : Stmt := top 31
def N6 : List Str := ["value", "name"]
def c6 : Ct := ⟨defScope s6, N6, [], true, false, fun _ => true, none, none, true, fun _ => none⟩
abbrev s7 : Stmt := top 32
def N7 : List Str := ["value", "size", "goal"]
def c7 : Ct := ⟨defScope s7, N7, [], true, false, fun _ => true, none, none, true, fun _ => none⟩
abbrev s8 : Stmt := top 33
def N8 : List Str := ["value", "size"]
def c8 : Ct := ⟨defScope s8, N8, [], true, false, fun _ => true, none, none, true, fun _ => none⟩
abbrev s9 : Stmt := top 34
def N9 : List Str := ["chart", "starts", "found", "waiting", "at"]
def c9 : Ct := ⟨defScope s9, N9, [], true, false, fun _ => true, none, none, true, fun _ => none⟩
abbrev s10 : Stmt := top 35
def N10 : List Str := ["chart", "found", "at", "goal"]
def c10 : Ct := ⟨defScope s10, N10, [], true, false, fun _ => true, none, none, true, fun _ => none⟩
abbrev s11 : Stmt := top 36
def N11 : List Str := ["chart", "index", "ahead", "found", "waiting", "at"]
def c11 : Ct := ⟨defScope s11, N11, [], true, false, fun _ => true, none, none, true, fun _ => none⟩
abbrev s12 : Stmt := top 37
def N12 : List Str := ["chart", "found", "step", "name"]
def c12 : Ct := ⟨defScope s12, N12, [], true, false, fun _ => true, none, none, true, fun _ => none⟩
abbrev s13 : Stmt := top 38
def N13 : List Str := ["value", "at", "step"]
def c13 : Ct := ⟨defScope s13, N13, [], true, false, fun _ => true, none, none, true, fun _ => none⟩
abbrev s14 : Stmt := top 39
def N14 : List Str := ["value", "fault", "reached", "leading", "at"]
def c14 : Ct := ⟨defScope s14, N14, [], true, false, fun _ => true, none, none, true, fun _ => none⟩
abbrev s15 : Stmt := top 40
def N15 : List Str := ["value"]
def c15 : Ct := ⟨defScope s15, N15, [], true, false, fun _ => true, none, none, true, fun _ => none⟩
abbrev s16 : Stmt := top 41
def N16 : List Str := ["value"]
def c16 : Ct := ⟨defScope s16, N16, [], true, false, fun _ => true, none, none, true, fun _ => none⟩
abbrev s17 : Stmt := top 42
def N17 : List Str := ["chart", "value"]
def c17 : Ct := ⟨defScope s17, N17, [], true, false, fun _ => true, none, none, true, fun _ => none⟩
abbrev s18 : Stmt := top 52
def N18 : List Str := ["parents", "at", "found"]
def c18 : Ct := ⟨defScope s18, N18, [], true, false, fun _ => true, none, none, true, fun _ => none⟩
abbrev s19 : Stmt := top 53
def N19 : List Str := ["chart", "start", "goal", "parents", "waiting", "spot", "at", "one"]
def c19 : Ct := ⟨defScope s19, N19, [], true, false, fun _ => true, none, none, true, fun _ => none⟩
abbrev s20 : Stmt := top 54
def N20 : List Str := ["chart", "value", "at", "steps", "here", "there"]
def c20 : Ct := ⟨defScope s20, N20, [], true, false, fun _ => true, none, none, true, fun _ => none⟩
abbrev s21 : Stmt := top 55
def N21 : List Str := ["chart", "lot", "found", "at"]
def c21 : Ct := ⟨defScope s21, N21, [], true, false, fun _ => true, none, none, true, fun _ => none⟩
abbrev s22 : Stmt := top 56
def N22 : List Str := ["chart", "lot", "step", "kept", "seen", "waiting", "found", "at", "fresh", "goal"]
def c22 : Ct := ⟨defScope s22, N22, [], true, false, fun _ => true, none, none, true, fun _ => none⟩
abbrev s23 : Stmt := top 58
def N23 : List Str := ["chart", "lot", "step", "roads", "road", "places", "index", "found", "at"]
def c23 : Ct := ⟨defScope s23, N23, [], true, false, fun _ => true, none, none, true, fun _ => none⟩
abbrev s24 : Stmt := top 59
def N24 : List Str := ["roads", "value", "inner", "at"]
def c24 : Ct := ⟨defScope s24, N24, [], true, false, fun _ => true, none, none, true, fun _ => none⟩
abbrev s25 : Stmt := top 60
def N25 : List Str := ["one", "other", "at"]
def c25 : Ct := ⟨defScope s25, N25, [], true, false, fun _ => true, none, none, true, fun _ => none⟩
abbrev s26 : Stmt := top 61
def N26 : List Str := ["roads", "index", "steps", "at", "one", "other", "goals", "goal"]
def c26 : Ct := ⟨defScope s26, N26, [], true, false, fun _ => true, none, none, true, fun _ => none⟩
abbrev s27 : Stmt := top 62
def N27 : List Str := ["chart", "lot", "step", "value", "roads", "one"]
def c27 : Ct := ⟨defScope s27, N27, [], true, false, fun _ => true, none, none, true, fun _ => none⟩
abbrev s28 : Stmt := top 63
def N28 : List Str := ["chart", "kept", "at", "goal"]
def c28 : Ct := ⟨defScope s28, N28, [], true, false, fun _ => true, none, none, true, fun _ => none⟩
abbrev s29 : Stmt := top 64
def N29 : List Str := ["chart", "lot", "kept", "left", "order", "at", "done", "ready", "goal", "way"]
def c29 : Ct := ⟨defScope s29, N29, [], true, false, fun _ => true, none, none, true, fun _ => none⟩
abbrev s30 : Stmt := top 65
def N30 : List Str := ["chart", "kept", "value", "at", "here", "there"]
def c30 : Ct := ⟨defScope s30, N30, [], true, false, fun _ => true, none, none, true, fun _ => none⟩
abbrev s31 : Stmt := top 66
def N31 : List Str := ["chart", "kept", "value", "at", "places", "place", "goal"]
def c31 : Ct := ⟨defScope s31, N31, [], true, false, fun _ => true, none, none, true, fun _ => none⟩
abbrev s32 : Stmt := top 67
def N32 : List Str := ["chart", "lot", "value", "steps", "at", "kept"]
def c32 : Ct := ⟨defScope s32, N32, [], true, false, fun _ => true, none, none, true, fun _ => none⟩
abbrev s33 : Stmt := top 68
def N33 : List Str := ["chart", "value", "at", "one", "other"]
def c33 : Ct := ⟨defScope s33, N33, [], true, false, fun _ => true, none, none, true, fun _ => none⟩
abbrev s34 : Stmt := top 69
def N34 : List Str := ["chart", "value"]
def c34 : Ct := ⟨defScope s34, N34, [], true, false, fun _ => true, none, none, true, fun _ => none⟩
abbrev s35 : Stmt := top 70
def N35 : List Str := ["chart", "lot"]
def c35 : Ct := ⟨defScope s35, N35, [], true, false, fun _ => true, none, none, true, fun _ => none⟩
abbrev s36 : Stmt := top 71
def N36 : List Str := ["chart", "start", "goal"]
def c36 : Ct := ⟨defScope s36, N36, [], true, false, fun _ => true, none, none, true, fun _ => none⟩
abbrev s37 : Stmt := top 72
def N37 : List Str := ["chart", "start", "goal"]
def c37 : Ct := ⟨defScope s37, N37, [], true, false, fun _ => true, none, none, true, fun _ => none⟩
abbrev s38 : Stmt := top 73
def N38 : List Str := ["chart", "start", "goal", "value"]
def c38 : Ct := ⟨defScope s38, N38, [], true, false, fun _ => true, none, none, true, fun _ => none⟩
abbrev s39 : Stmt := top 74
def N39 : List Str := ["chart", "lot", "step"]
def c39 : Ct := ⟨defScope s39, N39, [], true, false, fun _ => true, none, none, true, fun _ => none⟩
abbrev s40 : Stmt := top 75
def N40 : List Str := ["chart", "lot", "step"]
def c40 : Ct := ⟨defScope s40, N40, [], true, false, fun _ => true, none, none, true, fun _ => none⟩
abbrev s41 : Stmt := top 76
def N41 : List Str := ["chart", "lot", "step", "value"]
def c41 : Ct := ⟨defScope s41, N41, [], true, false, fun _ => true, none, none, true, fun _ => none⟩
abbrev s42 : Stmt := top 77
def N42 : List Str := ["chart", "lot"]
def c42 : Ct := ⟨defScope s42, N42, [], true, false, fun _ => true, none, none, true, fun _ => none⟩
abbrev s43 : Stmt := top 78
def N43 : List Str := ["chart", "lot", "value"]
def c43 : Ct := ⟨defScope s43, N43, [], true, false, fun _ => true, none, none, true, fun _ => none⟩
abbrev s44 : Stmt := top 81
def N44 : List Str := ["_law_spins_here", "_law_total", "_law_found", "_law_one", "_law_two"]
def c44 : Ct := ⟨defScope s44, N44, [], true, false, fun _ => true, none, none, true, fun _ => none⟩
abbrev s45 : Stmt := top 82
def N45 : List Str := ["_law_spins_here", "_law_items"]
def c45 : Ct := ⟨defScope s45, N45, [], true, false, fun _ => true, none, none, true, fun _ => none⟩
abbrev s46 : Stmt := top 83
def N46 : List Str := ["_law_call", "error"]
def c46 : Ct := ⟨defScope s46, N46, [0], true, false, fun _ => true, some "_law_call", none, true, fun _ => none⟩
abbrev s47 : Stmt := top 84
def N47 : List Str := ["_law_spins_here", "_law_good", "_law_endless", "_law_alone", "_law_none", "_law_lot", "_law_step", "_law_index", "_law_met_here", "_law_call", "_law_due", "_law_other", "_law_last"]
def c47 : Ct := ⟨defScope s47, N47, [], true, true, fun _ => true, none, none, true, fun _ => none⟩
abbrev s48 : Stmt := clsBody (top 57) 1
def N48 : List Str := ["self", "chart", "lot", "start"]
def c48 : Ct := ⟨defScope s48, N48, [], true, false, fun _ => true, none, none, true, fun _ => none⟩
abbrev s49 : Stmt := clsBody (top 57) 2
def N49 : List Str := ["self", "at", "found", "goal"]
def c49 : Ct := ⟨defScope s49, N49, [], true, false, fun _ => true, none, none, true, fun _ => none⟩
abbrev s50 : Stmt := clsBody (top 57) 3
def N50 : List Str := ["self", "at"]
def c50 : Ct := ⟨defScope s50, N50, [], true, false, fun _ => true, none, none, true, fun _ => none⟩
abbrev s51 : Stmt := clsBody (top 57) 4
def N51 : List Str := ["self", "parents", "waiting", "spot", "goal"]
def c51 : Ct := ⟨defScope s51, N51, [], true, false, fun _ => true, none, none, true, fun _ => none⟩
abbrev s52 : Stmt := clsBody (top 57) 5
def N52 : List Str := ["self", "place", "ahead", "at", "side", "found", "goal"]
def c52 : Ct := ⟨defScope s52, N52, [], true, false, fun _ => true, none, none, true, fun _ => none⟩
abbrev s53 : Stmt := clsBody (top 57) 6
def N53 : List Str := ["self", "road", "ahead", "at", "goal", "first", "parents", "waiting", "place", "one"]
def c53 : Ct := ⟨defScope s53, N53, [], true, false, fun _ => true, none, none, true, fun _ => none⟩
abbrev s54 : Stmt := clsBody (top 57) 7
def N54 : List Str := ["self", "road", "places", "edges", "edge", "here", "side", "there", "other", "found", "start", "goal", "way", "at"]
def c54 : Ct := ⟨defScope s54, N54, [], true, false, fun _ => true, none, none, true, fun _ => none⟩
abbrev s55 : Stmt := clsBody (top 57) 8
def N55 : List Str := ["self", "index", "found", "waiting", "fresh", "goal"]
def c55 : Ct := ⟨defScope s55, N55, [], true, false, fun _ => true, none, none, true, fun _ => none⟩
abbrev s56 : Stmt := top 80
def N56 : List Str := ["_law_script", "_law_spot", "_law_cell", "_law_great"]
def c56 : Ct := ⟨defScope s56, N56, [], true, false, fun _ => true, none, none, true, fun _ => none⟩
abbrev s57 : Stmt := top 85
def N57 : List Str := ["_law_script", "_law_spot", "_law_spins_here", "_law_turn"]
def c57 : Ct := ⟨defScope s57, N57, [0], true, false, fun _ => true, none, none, false, spF N57 "_law_spins" (defScope s57)⟩
/- 0 is_integer, 1 is_within, 2 is_name, 3 require_within, 4 uses_of, 5 follows_in, 6 are_uses, 7 are_ways, 8 is_step, 9 behind_in, 10 ahead_in, 11 leading_in, 12 names_in, 13 form_fault, 14 fault_in, 15 is_chart_in, 16 require_chart, 17 require_step, 18 led_back, 19 way_in, 20 is_way_in, 21 kept_in, 22 firsts_in, 23 roads_or_through_in, 24 is_road, 25 are_apart, 26 is_closed_through, 27 is_roads_or_through_in, 28 left_goals, 29 ring_or_order_in, 30 is_ring_in, 31 is_order_in, 32 is_ring_or_order_in, 33 is_lot_in, 34 require_lot, 35 require_lot_of, 36 require_ends, 37 way, 38 is_way, 39 firsts, 40 roads_or_through, 41 is_roads_or_through, 42 ring_or_order, 43 is_ring_or_order, 44 _law_spin, 45 _law_among, 46 _law_met, 47 _law_right, 48 Roads.__init__, 49 Roads.goals, 50 Roads.is_end, 51 Roads.first_road, 52 Roads.moves, 53 Roads.second_places, 54 Roads.joined, 55 Roads.reached_without, 56 _law_spins, 57 law -/
def i0 : List IS := [.ret (.bop .And [(.isi (.var 0) .int), (.not (.isi (.var 0) .bl))])]
theorem h0 : (cmN gt 80).Ss c0 (defBody s0) = some i0 := by kernel_rfl
def i1 : List IS := [.ret (.bop .And [(.call 0 [(.var 0)]), (.cmp2 .LtE .LtE (.var 1) (.var 0) (.var 2))])]
theorem h1 : (cmN gt 80).Ss c1 (defBody s1) = some i1 := by kernel_rfl
def i2 : List IS := [.ret (.bop .And [(.isi (.var 0) .str), (.cmp2 .LtE .LtE (.lit (.int 1)) (.bi .len [(.var 0)]) (.glb 0)), (.bi .all [(.lc (.cmp .In (.var 1) (.glb 1)) (.nm 1) (.seq (.var 0)) [] [1])])])]
theorem h2 : (cmN gt 80).Ss c2 (defBody s2) = some i2 := by kernel_rfl
def i3 : List IS := [.ite (.not (.call 1 [(.var 0), (.var 1), (.var 2)])) [.rais 3 (some ⟨#[103, 105, 118, 101, 110]⟩) (.var 0)] []]
theorem h3 : (cmN gt 80).Ss c3 (defBody s3) = some i3 := by kernel_rfl
def i4 : List IS := [.ret (.ite (.cmp .Eq (.sub (.var 0) (.lit (.int 0))) (.glb 10)) (.sub (.var 0) (.lit (.int 2))) (.sub (.var 0) (.lit (.int 1))))]
theorem h4 : (cmN gt 80).Ss c4 (defBody s4) = some i4 := by kernel_rfl
def i5 : List IS := [.asg (.nm 2) (.sub (.var 0) (.var 1)), .ret (.ite (.cmp .Eq (.sub (.var 2) (.lit (.int 0))) (.glb 11)) (.sub (.var 2) (.lit (.int 2))) (.tup [(.sub (.var 2) (.neg (.lit (.int 1))))]))]
theorem h5 : (cmN gt 80).Ss c5 (defBody s5) = some i5 := by kernel_rfl
def i6 : List IS := [.ite (.bop .Or [(.not (.isi (.var 0) .tup)), (.cmp .Gt (.bi .len [(.var 0)]) (.glb 4)), (.not (.bi .all [(.lc (.call 2 [(.var 1)]) (.nm 1) (.seq (.var 0)) [] [1])]))]) [.ret (.lit (.bl false))] [], .ret (.cmp .Eq (.bi .lenset [(.var 0)]) (.bi .len [(.var 0)]))]
theorem h6 : (cmN gt 80).Ss c6 (defBody s6) = some i6 := by kernel_rfl
def i7 : List IS := [.ite (.bop .Or [(.not (.isi (.var 0) .tup)), (.not (.cmp2 .LtE .LtE (.glb 6) (.bi .len [(.var 0)]) (.glb 5)))]) [.ret (.lit (.bl false))] [], .ret (.bi .all [(.lc (.call 1 [(.var 2), (.lit (.int 0)), (.var 1)]) (.nm 2) (.seq (.var 0)) [] [2])])]
theorem h7 : (cmN gt 80).Ss c7 (defBody s7) = some i7 := by kernel_rfl
def i8 : List IS := [.ite (.bop .Or [(.not (.isi (.var 0) .tup)), (.cmp .Eq (.var 0) (.tup [])), (.not (.isi (.sub (.var 0) (.lit (.int 0))) .str))]) [.ret (.lit (.bl false))] [], .ite (.bop .And [(.cmp .Eq (.sub (.var 0) (.lit (.int 0))) (.glb 10)), (.cmp .Eq (.bi .len [(.var 0)]) (.glb 7))]) [.ret (.bop .And [(.call 2 [(.sub (.var 0) (.lit (.int 1)))]), (.call 6 [(.sub (.var 0) (.lit (.int 2)))]), (.call 1 [(.sub (.var 0) (.lit (.int 3))), (.lit (.int 0)), (.var 1)])])] [], .ite (.bop .And [(.cmp .Eq (.sub (.var 0) (.lit (.int 0))) (.glb 11)), (.cmp .Eq (.bi .len [(.var 0)]) (.glb 8))]) [.ret (.bop .And [(.call 6 [(.sub (.var 0) (.lit (.int 1)))]), (.call 7 [(.sub (.var 0) (.lit (.int 2))), (.var 1)])])] [], .ret (.bop .And [(.cmp .Eq (.sub (.var 0) (.lit (.int 0))) (.glb 12)), (.cmp .Eq (.bi .len [(.var 0)]) (.glb 9)), (.call 6 [(.sub (.var 0) (.lit (.int 1)))]), (.call 1 [(.sub (.var 0) (.lit (.int 2))), (.lit (.int 0)), (.var 1)])])]
theorem h8 : (cmN gt 80).Ss c8 (defBody s8) = some i8 := by kernel_rfl
def i9 : List IS := [.par [2, 3] [.dnil, (.bi .list [(.var 1)])], .whl (.cmp .NotEq (.var 3) (.lst [])) [.asg (.nm 4) (.met .pop (.var 3) []), .ite (.cmp .NotIn (.var 4) (.var 2)) [.put (.var 2) (.var 4) (.lit (.bl true)), .ex (.met .extend (.var 3) [(.ite (.cmp .Lt (.var 4) (.bi .len [(.var 0)])) (.call 5 [(.var 0), (.var 4)]) (.tup []))])] []], .ret (.var 2)]
theorem h9 : (cmN gt 80).Ss c9 (defBody s9) = some i9 := by kernel_rfl
def i10 : List IS := [.asg (.nm 1) (.lc (.lst []) (.nm 2) (.rng1 (.bin .Add (.bi .len [(.var 0)]) (.lit (.int 1)))) [] [2]), .forI (.nm 2) (.rng1 (.bi .len [(.var 0)])) [.forI (.nm 3) (.seq (.bi .sorted [(.dc (.var 3) (.lit (.bl true)) (.nm 3) (.seq (.call 5 [(.var 0), (.var 2)])) [] [3])])) [.ex (.met .append (.sub (.var 1) (.var 3)) [(.var 2)])]], .ret (.var 1)]
theorem h10 : (cmN gt 80).Ss c10 (defBody s10) = some i10 := by kernel_rfl
def i11 : List IS := [.par [2, 3, 4] [(.call 10 [(.var 0)]), .dnil, (.lst [(.var 1)])], .whl (.cmp .NotEq (.var 4) (.lst [])) [.asg (.nm 5) (.met .pop (.var 4) []), .ite (.cmp .NotIn (.var 5) (.var 3)) [.put (.var 3) (.var 5) (.lit (.bl true)), .ex (.met .extend (.var 4) [(.sub (.var 2) (.var 5))])] []], .ret (.var 3)]
theorem h11 : (cmN gt 80).Ss c11 (defBody s11) = some i11 := by kernel_rfl
def i12 : List IS := [.asg (.nm 1) .dnil, .forI (.nm 2) (.seq (.var 0)) [.ex (.met .update (.var 1) [(.dc (.var 3) (.lit (.bl true)) (.nm 3) (.seq (.call 4 [(.var 2)])) [] [3])]), .ite (.cmp .Eq (.sub (.var 2) (.lit (.int 0))) (.glb 10)) [.put (.var 1) (.sub (.var 2) (.lit (.int 1))) (.lit (.bl true))] []], .ret (.bi .tuple [(.bi .sorted [(.var 1)])])]
theorem h12 : (cmN gt 80).Ss c12 (defBody s12) = some i12 := by kernel_rfl
def i13 : List IS := [.ite (.bop .Or [(.not (.isi (.var 0) .tup)), (.not (.cmp2 .LtE .LtE (.lit (.int 1)) (.bi .len [(.var 0)]) (.glb 2)))]) [.ret (.tup [(.glb 13)])] [], .forI (.tp [(.nm 1), (.nm 2)]) (.enm (.var 0)) [.ite (.not (.call 8 [(.var 2), (.bi .len [(.var 0)])])) [.ret (.tup [(.glb 14), (.var 1)])] []], .ret (.ite (.cmp .Gt (.bi .len [(.call 12 [(.var 0)])]) (.glb 3)) (.tup [(.glb 15)]) (.lit .non))]
theorem h13 : (cmN gt 80).Ss c13 (defBody s13) = some i13 := by kernel_rfl
def i14 : List IS := [.asg (.nm 1) (.call 13 [(.var 0)]), .ite (.cmp .IsNot (.var 1) (.lit .non)) [.ret (.var 1)] [], .par [2, 3] [(.call 9 [(.var 0), (.lst [(.lit (.int 0))])]), (.call 11 [(.var 0), (.bi .len [(.var 0)])])], .forI (.nm 4) (.rng1 (.bi .len [(.var 0)])) [.ite (.cmp .NotIn (.var 4) (.var 2)) [.ret (.tup [(.glb 16), (.var 4)])] []], .forI (.nm 4) (.rng1 (.bi .len [(.var 0)])) [.ite (.cmp .NotIn (.var 4) (.var 3)) [.ret (.tup [(.glb 17), (.var 4)])] []], .ret (.lit .non)]
theorem h14 : (cmN gt 80).Ss c14 (defBody s14) = some i14 := by kernel_rfl
def i15 : List IS := [.ret (.cmp .Is (.call 14 [(.var 0)]) (.lit .non))]
theorem h15 : (cmN gt 80).Ss c15 (defBody s15) = some i15 := by kernel_rfl
def i16 : List IS := [.ite (.not (.call 15 [(.var 0)])) [.rais 1 none (.lit (.str ⟨#[97, 32, 115, 111, 117, 110, 100, 32, 99, 104, 97, 114, 116, 32, 105, 115, 32, 101, 120, 112, 101, 99, 116, 101, 100]⟩))] []]
theorem h16 : (cmN gt 80).Ss c16 (defBody s16) = some i16 := by kernel_rfl
def i17 : List IS := [.ex (.call 3 [(.var 1), (.lit (.int 0)), (.bin .Sub (.bi .len [(.var 0)]) (.lit (.int 1)))])]
theorem h17 : (cmN gt 80).Ss c17 (defBody s17) = some i17 := by kernel_rfl
def i18 : List IS := [.asg (.nm 2) (.lst [(.var 1)]), .whl (.cmp .IsNot (.sub (.var 0) (.sub (.var 2) (.neg (.lit (.int 1))))) (.lit .non)) [.ex (.met .append (.var 2) [(.sub (.var 0) (.sub (.var 2) (.neg (.lit (.int 1)))))])], .ret (.rev (.var 2))]
theorem h18 : (cmN gt 80).Ss c18 (defBody s18) = some i18 := by kernel_rfl
def i19 : List IS := [.par [3, 4, 5] [(.dlit (.var 1) (.lit .non)), (.lst [(.var 1)]), (.lit (.int 0))], .whl (.bop .And [(.cmp .Lt (.var 5) (.bi .len [(.var 4)])), (.cmp .NotEq (.sub (.var 4) (.var 5)) (.var 2))]) [.asg (.nm 6) (.sub (.var 4) (.var 5)), .forI (.nm 7) (.seq (.ite (.cmp .Lt (.var 6) (.bi .len [(.var 0)])) (.call 5 [(.var 0), (.var 6)]) (.tup []))) [.ite (.cmp .NotIn (.var 7) (.var 3)) [.put (.var 3) (.var 7) (.var 6), .ex (.met .append (.var 4) [(.var 7)])] []], .aug 5 .Add (.lit (.int 1))], .ret (.ite (.cmp .In (.var 2) (.var 3)) (.bi .tuple [(.call 18 [(.var 3), (.var 2)])]) (.lit .non))]
theorem h19 : (cmN gt 80).Ss c19 (defBody s19) = some i19 := by kernel_rfl
def i20 : List IS := [.ite (.bop .Or [(.not (.isi (.var 1) .tup)), (.cmp .Eq (.var 1) (.tup [])), (.not (.bi .all [(.lc (.call 1 [(.var 2), (.lit (.int 0)), (.bi .len [(.var 0)])]) (.nm 2) (.seq (.var 1)) [] [2])]))]) [.ret (.lit (.bl false))] [], .bad, .ret (.bi .all [(.lc (.bop .And [(.cmp .Lt (.var 4) (.bi .len [(.var 0)])), (.cmp .In (.var 5) (.call 5 [(.var 0), (.var 4)]))]) (.tp [(.nm 4), (.nm 5)]) (.seq (.var 3)) [] [4, 5])])]
theorem h20 : (cmN gt 80).Ss c20 (defBody s20) = some i20 := by kernel_rfl
def i21 : List IS := [.asg (.nm 2) (.dc (.var 3) (.lit (.bl true)) (.nm 3) (.seq (.var 1)) [] [3]), .put (.var 2) (.bi .len [(.var 0)]) (.lit (.bl true)), .ret (.var 2)]
theorem h21 : (cmN gt 80).Ss c21 (defBody s21) = some i21 := by kernel_rfl
def i22 : List IS := [.asg (.nm 3) (.call 21 [(.var 0), (.var 1)]), .asg (.tp [(.nm 4), (.nm 5), (.nm 6)]) (.tup [(.dlit (.var 2) (.lit (.bl true))), (.lst [(.var 2)]), .dnil]), .whl (.cmp .NotEq (.var 5) (.lst [])) [.asg (.nm 7) (.met .pop (.var 5) []), .ite (.cmp .In (.var 7) (.var 3)) [.put (.var 6) (.var 7) (.lit (.bl true))] [.asg (.nm 8) (.bi .sorted [(.dc (.var 9) (.lit (.bl true)) (.nm 9) (.seq (.call 5 [(.var 0), (.var 7)])) [(.cmp .NotIn (.var 9) (.var 4))] [9])]), .ex (.met .update (.var 4) [(.dc (.var 9) (.lit (.bl true)) (.nm 9) (.seq (.var 8)) [] [9])]), .ex (.met .extend (.var 5) [(.var 8)])]], .ret (.bi .tuple [(.bi .sorted [(.var 6)])])]
theorem h22 : (cmN gt 80).Ss c22 (defBody s22) = some i22 := by kernel_rfl
def i23 : List IS := [.asg (.nm 3) (.new 4 48 [(.var 0), (.var 1), (.var 2)]), .asg (.nm 4) (.metc 2 (.var 3) []), .asg (.nm 5) (.metc 4 (.var 3) [(.var 4)]), .ite (.cmp .IsNot (.var 5) (.lit .non)) [.ret (.tup [(.glb 18), (.star (.metc 5 (.var 3) [(.var 4), (.var 5)]))])] [], .forI (.nm 6) (.seq (.slc (.var 4) (some (.lit (.int 1))) none)) [.asg (.nm 7) (.metc 6 (.var 3) [(.var 6)]), .ite (.not (.bi .any [(.lc (.metc 1 (.var 3) [(.var 8)]) (.nm 8) (.keys (.var 7)) [] [8])])) [.ret (.tup [(.glb 19), (.var 6), (.bi .tuple [(.bi .sorted [(.var 7)])])])] []], .ret (.tup [(.glb 19), (.sub (.var 4) (.neg (.lit (.int 1)))), (.tup [])])]
theorem h23 : (cmN gt 80).Ss c23 (defBody s23) = some i23 := by kernel_rfl
def i24 : List IS := [.ite (.bop .Or [(.not (.call 20 [(.att 1 (.var 0)), (.var 1)])), (.cmp .Lt (.bi .len [(.var 1)]) (.glb 22)), (.cmp .NotEq (.sub (.var 1) (.lit (.int 0))) (.att 3 (.var 0)))]) [.ret (.lit (.bl false))] [], .asg (.nm 2) (.slc (.var 1) (some (.lit (.int 1))) (some (.neg (.lit (.int 1))))), .ret (.bop .And [(.cmp .In (.sub (.var 1) (.neg (.lit (.int 1)))) (.att 2 (.var 0))), (.not (.bi .any [(.lc (.bop .Or [(.cmp .In (.var 3) (.att 2 (.var 0))), (.cmp .Eq (.var 3) (.att 3 (.var 0)))]) (.nm 3) (.seq (.var 2)) [] [3])]))])]
theorem h24 : (cmN gt 80).Ss c24 (defBody s24) = some i24 := by kernel_rfl
def i25 : List IS := [.ite (.cmp .Eq (.sub (.var 0) (.neg (.lit (.int 1)))) (.sub (.var 1) (.neg (.lit (.int 1))))) [.ret (.lit (.bl false))] [], .ret (.not (.bi .any [(.lc (.cmp .In (.var 2) (.slc (.var 1) (some (.lit (.int 1))) none)) (.nm 2) (.seq (.slc (.var 0) (some (.lit (.int 1))) none)) [] [2])]))]
theorem h25 : (cmN gt 80).Ss c25 (defBody s25) = some i25 := by kernel_rfl
def i26 : List IS := [.ite (.bop .Or [(.not (.isi (.var 2) .tup)), (.not (.bi .all [(.lc (.call 1 [(.var 3), (.lit (.int 0)), (.bin .Sub (.bi .len [(.att 1 (.var 0))]) (.lit (.int 1)))]) (.nm 3) (.seq (.var 2)) [] [3])]))]) [.ret (.lit (.bl false))] [], .ite (.bi .any [(.lc (.cmp .GtE (.var 4) (.var 5)) (.tp [(.nm 4), (.nm 5)]) (.zp (.var 2) (.slc (.var 2) (some (.lit (.int 1))) none)) [] [4, 5])]) [.ret (.lit (.bl false))] [], .ite (.bi .any [(.lc (.bop .Or [(.cmp .In (.var 3) (.att 2 (.var 0))), (.cmp .In (.var 3) (.tup [(.att 3 (.var 0)), (.var 1)]))]) (.nm 3) (.seq (.var 2)) [] [3])]) [.ret (.lit (.bl false))] [], .asg (.nm 6) (.lc2 (.var 7) (.nm 3) (.seq (.tup [(.att 3 (.var 0)), (.star (.var 2))])) [] (.nm 7) (.seq (.metc 0 (.var 0) [(.var 3)])) [] [3, 7] [7]), .ret (.bi .all [(.lc (.bop .Or [(.cmp .Eq (.var 7) (.var 1)), (.cmp .In (.var 7) (.var 2))]) (.nm 7) (.seq (.var 6)) [] [7])])]
theorem h26 : (cmN gt 80).Ss c26 (defBody s26) = some i26 := by kernel_rfl
def i27 : List IS := [.ite (.bop .Or [(.not (.isi (.var 3) .tup)), (.cmp .NotEq (.bi .len [(.var 3)]) (.glb 23)), (.not (.isi (.sub (.var 3) (.lit (.int 0))) .str))]) [.ret (.lit (.bl false))] [], .asg (.nm 4) (.new 4 48 [(.var 0), (.var 1), (.var 2)]), .ite (.cmp .Eq (.sub (.var 3) (.lit (.int 0))) (.glb 18)) [.ret (.bop .And [(.bi .all [(.lc (.call 24 [(.var 4), (.var 5)]) (.nm 5) (.seq (.slc (.var 3) (some (.lit (.int 1))) none)) [] [5])]), (.call 25 [(.sub (.var 3) (.lit (.int 1))), (.sub (.var 3) (.lit (.int 2)))])])] [], .ite (.bop .Or [(.cmp .NotEq (.sub (.var 3) (.lit (.int 0))) (.glb 19)), (.not (.call 1 [(.sub (.var 3) (.lit (.int 1))), (.lit (.int 0)), (.bi .len [(.var 0)])])), (.cmp .Eq (.sub (.var 3) (.lit (.int 1))) (.var 2))]) [.ret (.lit (.bl false))] [], .ret (.call 26 [(.var 4), (.sub (.var 3) (.lit (.int 1))), (.sub (.var 3) (.lit (.int 2)))])]
theorem h27 : (cmN gt 80).Ss c27 (defBody s27) = some i27 := by kernel_rfl
def i28 : List IS := [.ret (.lc (.var 3) (.nm 3) (.seq (.call 5 [(.var 0), (.var 2)])) [(.cmp .NotIn (.var 3) (.var 1))] [3])]
theorem h28 : (cmN gt 80).Ss c28 (defBody s28) = some i28 := by kernel_rfl
def i29 : List IS := [.asg (.nm 2) (.call 21 [(.var 0), (.var 1)]), .par [3, 4] [(.lc (.var 5) (.nm 5) (.rng1 (.bi .len [(.var 0)])) [(.cmp .NotIn (.var 5) (.var 2))] [5]), (.lst [])], .asg (.nm 6) .dnil, .whl (.lit (.bl true)) [.asg (.nm 7) (.lc (.var 5) (.nm 5) (.seq (.var 3)) [(.bop .And [(.cmp .NotIn (.var 5) (.var 6)), (.bi .all [(.lc (.cmp .In (.var 8) (.var 6)) (.nm 8) (.seq (.call 28 [(.var 0), (.var 2), (.var 5)])) [] [8])])])] [5]), .ite (.cmp .Eq (.var 7) (.lst [])) [.brk] [], .ex (.met .extend (.var 4) [(.var 7)]), .ex (.met .update (.var 6) [(.dc (.var 5) (.lit (.bl true)) (.nm 5) (.seq (.var 7)) [] [5])])], .ite (.cmp .Eq (.bi .len [(.var 4)]) (.bi .len [(.var 3)])) [.ret (.tup [(.glb 21), (.bi .tuple [(.var 4)])])] [], .asg (.nm 9) (.lst [(.sub (.lc (.var 5) (.nm 5) (.seq (.var 3)) [(.cmp .NotIn (.var 5) (.var 6))] [5]) (.lit (.int 0)))]), .whl (.cmp .NotIn (.sub (.var 9) (.neg (.lit (.int 1)))) (.slc (.var 9) none (some (.neg (.lit (.int 1)))))) [.ex (.met .append (.var 9) [(.sub (.lc (.var 8) (.nm 8) (.seq (.call 28 [(.var 0), (.var 2), (.sub (.var 9) (.neg (.lit (.int 1))))])) [(.cmp .NotIn (.var 8) (.var 6))] [8]) (.lit (.int 0)))])], .ret (.tup [(.glb 20), (.bi .tuple [(.slc (.var 9) (some (.met .index (.var 9) [(.sub (.var 9) (.neg (.lit (.int 1))))])) (some (.neg (.lit (.int 1)))))])])]
theorem h29 : (cmN gt 80).Ss c29 (defBody s29) = some i29 := by kernel_rfl
def i30 : List IS := [.ite (.bop .Or [(.cmp .Eq (.var 2) (.tup [])), (.cmp .NotEq (.bi .lenset [(.var 2)]) (.bi .len [(.var 2)])), (.bi .any [(.lc (.cmp .In (.var 3) (.var 1)) (.nm 3) (.seq (.var 2)) [] [3])])]) [.ret (.lit (.bl false))] [], .ret (.bi .all [(.lc (.cmp .In (.var 5) (.call 5 [(.var 0), (.var 4)])) (.tp [(.nm 4), (.nm 5)]) (.zp (.var 2) (.tup [(.star (.slc (.var 2) (some (.lit (.int 1))) none)), (.sub (.var 2) (.lit (.int 0)))])) [] [4, 5])])]
theorem h30 : (cmN gt 80).Ss c30 (defBody s30) = some i30 := by kernel_rfl
def i31 : List IS := [.ite (.cmp .NotEq (.bi .sorted [(.var 2)]) (.lc (.var 3) (.nm 3) (.rng1 (.bi .len [(.var 0)])) [(.cmp .NotIn (.var 3) (.var 1))] [3])) [.ret (.lit (.bl false))] [], .asg (.nm 4) (.dc (.var 3) (.var 5) (.tp [(.nm 5), (.nm 3)]) (.enm (.var 2)) [] [5, 3]), .ret (.bi .all [(.lc2 (.cmp .Lt (.sub (.var 4) (.var 6)) (.sub (.var 4) (.var 3))) (.nm 3) (.seq (.var 2)) [] (.nm 6) (.seq (.call 28 [(.var 0), (.var 1), (.var 3)])) [] [3, 6] [6])])]
theorem h31 : (cmN gt 80).Ss c31 (defBody s31) = some i31 := by kernel_rfl
def i32 : List IS := [.ite (.bop .Or [(.not (.isi (.var 2) .tup)), (.cmp .NotEq (.bi .len [(.var 2)]) (.glb 22)), (.not (.isi (.sub (.var 2) (.lit (.int 0))) .str))]) [.ret (.lit (.bl false))] [], .asg (.nm 3) (.sub (.var 2) (.lit (.int 1))), .ite (.bop .Or [(.not (.isi (.var 3) .tup)), (.not (.bi .all [(.lc (.call 1 [(.var 4), (.lit (.int 0)), (.bin .Sub (.bi .len [(.var 0)]) (.lit (.int 1)))]) (.nm 4) (.seq (.var 3)) [] [4])]))]) [.ret (.lit (.bl false))] [], .asg (.nm 5) (.call 21 [(.var 0), (.var 1)]), .ite (.cmp .Eq (.sub (.var 2) (.lit (.int 0))) (.glb 20)) [.ret (.call 30 [(.var 0), (.var 5), (.var 3)])] [], .ret (.bop .And [(.cmp .Eq (.sub (.var 2) (.lit (.int 0))) (.glb 21)), (.call 31 [(.var 0), (.var 5), (.var 3)])])]
theorem h32 : (cmN gt 80).Ss c32 (defBody s32) = some i32 := by kernel_rfl
def i33 : List IS := [.ite (.bop .Or [(.not (.isi (.var 1) .tup)), (.not (.bi .all [(.lc (.call 1 [(.var 2), (.lit (.int 0)), (.bin .Sub (.bi .len [(.var 0)]) (.lit (.int 1)))]) (.nm 2) (.seq (.var 1)) [] [2])]))]) [.ret (.lit (.bl false))] [], .ret (.bi .all [(.lc (.cmp .Lt (.var 3) (.var 4)) (.tp [(.nm 3), (.nm 4)]) (.zp (.var 1) (.slc (.var 1) (some (.lit (.int 1))) none)) [] [3, 4])])]
theorem h33 : (cmN gt 80).Ss c33 (defBody s33) = some i33 := by kernel_rfl
def i34 : List IS := [.ite (.not (.call 33 [(.var 0), (.var 1)])) [.rais 2 none (.lit (.str ⟨#[97, 110, 32, 97, 115, 99, 101, 110, 100, 105, 110, 103, 32, 116, 117, 112, 108, 101, 32, 111, 102, 32, 105, 110, 100, 105, 99, 101, 115, 32, 111, 102, 32, 115, 116, 101, 112, 115, 32, 105, 115, 32, 101, 120, 112, 101, 99, 116, 101, 100]⟩))] []]
theorem h34 : (cmN gt 80).Ss c34 (defBody s34) = some i34 := by kernel_rfl
def i35 : List IS := [.pin [0] (.ex (.call 16 [(.var 0)])), .pin [0, 1] (.ex (.call 34 [(.var 0), (.var 1)]))]
theorem h35 : (cmN gt 80).Ss c35 (defBody s35) = some i35 := by kernel_rfl
def i36 : List IS := [.pin [0] (.ex (.call 16 [(.var 0)])), .pin [0, 1] (.ex (.call 17 [(.var 0), (.var 1)])), .pin [0, 2] (.ex (.call 3 [(.var 2), (.lit (.int 0)), (.bi .len [(.var 0)])]))]
theorem h36 : (cmN gt 80).Ss c36 (defBody s36) = some i36 := by kernel_rfl
def i37 : List IS := [.ex (.call 36 [(.varL 0), (.varL 1), (.varL 2)]), .pin [0, 1, 2] (.ret (.call 19 [(.var 0), (.var 1), (.var 2)]))]
theorem h37 : (cmN gt 80).Ss c37 (defBody s37) = some i37 := by kernel_rfl
def i38 : List IS := [.ex (.call 36 [(.varL 0), (.varL 1), (.varL 2)]), .pin [0, 1, 2, 3] (.ret (.bop .And [(.call 20 [(.var 0), (.var 3)]), (.cmp .Eq (.sub (.var 3) (.lit (.int 0))) (.var 1)), (.cmp .Eq (.sub (.var 3) (.neg (.lit (.int 1)))) (.var 2))]))]
theorem h38 : (cmN gt 80).Ss c38 (defBody s38) = some i38 := by kernel_rfl
def i39 : List IS := [.ex (.call 35 [(.varL 0), (.varL 1)]), .pin [0, 2] (.ex (.call 17 [(.var 0), (.var 2)])), .pin [0, 1, 2] (.ret (.call 22 [(.var 0), (.var 1), (.var 2)]))]
theorem h39 : (cmN gt 80).Ss c39 (defBody s39) = some i39 := by kernel_rfl
def i40 : List IS := [.ex (.call 35 [(.varL 0), (.varL 1)]), .pin [0, 2] (.ex (.call 17 [(.var 0), (.var 2)])), .pin [0, 1, 2] (.ret (.call 23 [(.var 0), (.var 1), (.var 2)]))]
theorem h40 : (cmN gt 80).Ss c40 (defBody s40) = some i40 := by kernel_rfl
def i41 : List IS := [.ex (.call 35 [(.varL 0), (.varL 1)]), .pin [0, 2] (.ex (.call 17 [(.var 0), (.var 2)])), .pin [0, 1, 2, 3] (.ret (.call 27 [(.var 0), (.var 1), (.var 2), (.var 3)]))]
theorem h41 : (cmN gt 80).Ss c41 (defBody s41) = some i41 := by kernel_rfl
def i42 : List IS := [.ex (.call 35 [(.varL 0), (.varL 1)]), .pin [0, 1] (.ret (.call 29 [(.var 0), (.var 1)]))]
theorem h42 : (cmN gt 80).Ss c42 (defBody s42) = some i42 := by kernel_rfl
def i43 : List IS := [.ex (.call 35 [(.varL 0), (.varL 1)]), .pin [0, 1, 2] (.ret (.call 32 [(.var 0), (.var 1), (.var 2)]))]
theorem h43 : (cmN gt 80).Ss c43 (defBody s43) = some i43 := by kernel_rfl
theorem h44 : (cmN gtS 80).Ss c44 (defBody s44) = some iSpin := by kernel_rfl
def i45 : List IS := [.ret (.sub (.var 1) (.call 44 [(.var 0), (.bi .len [(.var 1)])]))]
theorem h45 : (cmN gt 80).Ss c45 (defBody s45) = some i45 := by kernel_rfl
def i46 : List IS := [.tryS [.ex .act] [.mk 1 none [.ret (.lit (.str ⟨#[99, 104, 97, 114, 116]⟩))], .mk 2 none [.ret (.lit (.str ⟨#[108, 111, 116]⟩))], .mk 3 (some 1) [.ret (.bin .Add (.lit (.str ⟨#[110, 117, 109, 98, 101, 114, 32]⟩)) (.bi .repr [(.fld ⟨#[103, 105, 118, 101, 110]⟩)]))]], .ret (.lit (.str ⟨#[102, 105, 110, 101]⟩))]
theorem h46 : (cmN gt0 80).Ss c46 (defBody s46) = some i46 := by kernel_rfl
def i47a : List IS := [.asg (.nm 1) (.tup [(.tup [(.lit (.str ⟨#[115, 101, 116]⟩)), (.lit (.str ⟨#[120]⟩)), (.tup []), (.lit (.int 1))]), (.tup [(.lit (.str ⟨#[97, 115, 107]⟩)), (.tup [(.lit (.str ⟨#[120]⟩))]), (.tup [(.lit (.int 2)), (.lit (.int 3))])]), (.tup [(.lit (.str ⟨#[115, 104, 111, 119]⟩)), (.tup [(.lit (.str ⟨#[120]⟩))]), (.lit (.int 0))])]), .asg (.tp [(.nm 2), (.nm 3)]) (.tup [(.tup [(.tup [(.lit (.str ⟨#[97, 115, 107]⟩)), (.tup []), (.tup [(.lit (.int 0)), (.lit (.int 0))])])]), (.tup [(.tup [(.lit (.str ⟨#[115, 104, 111, 119]⟩)), (.tup []), (.lit (.int 2))]), (.tup [(.lit (.str ⟨#[115, 104, 111, 119]⟩)), (.tup []), (.lit (.int 2))])])]), .asg (.nm 4) (.lst [(.lit .non), (.tup []), (.lit (.str ⟨#[99, 104, 97, 114, 116]⟩)), (.bi .list [(.var 1)]), (.var 2), (.var 3), (.slc (.var 1) (some (.lit (.int 1))) none), (.tup [(.tup [(.lit (.str ⟨#[115, 104, 111, 119]⟩)), (.tup []), (.lit (.bl true))])]), (.bin .Add (.var 1) (.tup [(.lit (.int 3))]))]), .asg (.nm 4) (.lazy (.call 45 [(.var 0), (.var 4)])), .asg (.nm 5) (.lazy (.call 45 [(.var 0), (.lst [(.lit .non), (.lit (.int 0)), (.tup [(.lit (.int 3))]), (.tup [(.lit (.int 1)), (.lit (.int 1))]), (.tup [(.lit (.int 2)), (.lit (.int 1))]), (.lst [(.lit (.int 1))]), (.tup [(.lit (.bl true))]), (.tup [(.neg (.lit (.int 1)))]), (.tup [(.lit (.str ⟨#[49]⟩))]), (.tup [(.lit (.int 0)), (.lit (.int 3))]), (.tup [(.lit .non)]), .dnil])])), .asg (.nm 6) (.lazy (.call 45 [(.var 0), (.lst [(.lit .non), (.neg (.lit (.int 1))), (.lit (.int 3)), (.lit (.bl true)), (.lit (.str ⟨#[48]⟩)), (.tup [(.lit (.int 0))]), (.bin .Pow (.lit (.int 10)) (.lit (.int 60)))])])), .asg (.nm 7) (.lazy (.call 45 [(.var 0), (.lst [(.lit .non), (.neg (.lit (.int 1))), (.lit (.int 4)), (.lit (.bl true)), (.lit (.str ⟨#[48]⟩)), (.tup [(.lit (.int 0))]), (.bin .Pow (.lit (.int 10)) (.lit (.int 60)))])])), .pin [6] (.asg (.nm 8) (.lst []))]
def i47b : List IS := [.pin [7] (.forI (.nm 9) (.seq (.tup [(.glb 26), (.lamv 56)])) [.ex (.met .append (.var 8) [(.mrg (.thk 46 (.callv 9 [(.varL 4), (.var 6), (.var 7)])))]), .ex (.met .append (.var 8) [(.mrg (.thk 46 (.callv 9 [(.var 1), (.var 6), (.var 7)])))]), .ex (.met .append (.var 8) [(.mrg (.thk 46 (.callv 9 [(.var 1), (.lit (.int 2)), (.var 7)])))]), .ex (.met .append (.var 8) [(.mrg (.thk 46 (.callv 9 [(.var 1), (.lit (.int 2)), (.lit (.int 3))])))])]), .asg (.nm 10) (.bin .Mult (.lst [(.lit (.str ⟨#[99, 104, 97, 114, 116]⟩)), (.bin .Add (.lit (.str ⟨#[110, 117, 109, 98, 101, 114, 32]⟩)) (.bi .repr [(.var 6)])), (.bin .Add (.lit (.str ⟨#[110, 117, 109, 98, 101, 114, 32]⟩)) (.bi .repr [(.var 7)])), (.lit (.str ⟨#[102, 105, 110, 101]⟩))]) (.lit (.int 2))), .forI (.nm 11) (.seq (.tup [(.glb 27), (.glb 28), (.lamv 57)])) [.ex (.met .append (.var 8) [(.mrg (.thk 46 (.callv 11 [(.varL 4), (.varL 5), (.var 6)])))]), .ex (.met .append (.var 8) [(.mrg (.thk 46 (.callv 11 [(.var 1), (.varL 5), (.var 6)])))]), .ex (.met .append (.var 8) [(.mrg (.thk 46 (.callv 11 [(.var 1), (.tup [(.lit (.int 0)), (.lit (.int 2))]), (.var 6)])))]), .ex (.met .append (.var 8) [(.mrg (.thk 46 (.callv 11 [(.var 1), (.tup [(.lit (.int 0)), (.lit (.int 1)), (.lit (.int 2))]), (.lit (.int 2))])))])], .asg (.nm 10) (.bin .Add (.var 10) (.bin .Mult (.lst [(.lit (.str ⟨#[99, 104, 97, 114, 116]⟩)), (.lit (.str ⟨#[108, 111, 116]⟩)), (.bin .Add (.lit (.str ⟨#[110, 117, 109, 98, 101, 114, 32]⟩)) (.bi .repr [(.var 6)])), (.lit (.str ⟨#[102, 105, 110, 101]⟩))]) (.lit (.int 3)))), .forI (.nm 12) (.seq (.tup [(.glb 29), (.lamv 58)])) [.ex (.met .append (.var 8) [(.mrg (.thk 46 (.callv 12 [(.varL 4), (.varL 5)])))]), .ex (.met .append (.var 8) [(.mrg (.thk 46 (.callv 12 [(.var 1), (.varL 5)])))]), .ex (.met .append (.var 8) [(.mrg (.thk 46 (.callv 12 [(.var 1), (.tup [])])))])], .ret (.cmp .Eq (.var 8) (.bin .Add (.var 10) (.bin .Mult (.lst [(.lit (.str ⟨#[99, 104, 97, 114, 116]⟩)), (.lit (.str ⟨#[108, 111, 116]⟩)), (.lit (.str ⟨#[102, 105, 110, 101]⟩))]) (.lit (.int 2)))))]
def i47 : List IS := i47a ++ i47b
theorem h47 : (cmN gt 80).Ss c47 (defBody s47) = some i47 := by kernel_rfl
def i48 : List IS := [.asgM [.at_ 1 (.var 0), .at_ 2 (.var 0), .at_ 3 (.var 0)] (.tup [(.var 1), (.call 21 [(.var 1), (.var 2)]), (.var 3)]), .putA 0 (.var 0) (.bin .Add (.bi .len [(.var 1)]) (.lit (.int 1)))]
theorem h48 : (cmN gt 80).Ss c48 (defBody s48) = some i48 := by kernel_rfl
def i49 : List IS := [.asg (.nm 2) (.dc (.var 3) (.lit (.bl true)) (.nm 3) (.seq (.call 5 [(.att 1 (.var 0)), (.var 1)])) [(.cmp .NotEq (.var 3) (.att 3 (.var 0)))] [3]), .ite (.bop .And [(.cmp .In (.att 3 (.var 0)) (.att 2 (.var 0))), (.cmp .In (.att 3 (.var 0)) (.call 5 [(.att 1 (.var 0)), (.var 1)]))]) [.put (.var 2) (.att 0 (.var 0)) (.lit (.bl true))] [], .ret (.bi .list [(.var 2)])]
theorem h49 : (cmN gt 80).Ss c49 (defBody s49) = some i49 := by kernel_rfl
def i50 : List IS := [.ret (.bop .Or [(.cmp .Eq (.var 1) (.att 0 (.var 0))), (.cmp .In (.var 1) (.att 2 (.var 0)))])]
theorem h50 : (cmN gt 80).Ss c50 (defBody s50) = some i50 := by kernel_rfl
def i51 : List IS := [.par [1, 2, 3] [(.dlit (.att 3 (.var 0)) (.lit .non)), (.lst [(.att 3 (.var 0))]), (.lit (.int 0))], .whl (.bop .Or [(.cmp .Eq (.sub (.var 2) (.var 3)) (.att 3 (.var 0))), (.not (.metc 1 (.var 0) [(.sub (.var 2) (.var 3))]))]) [.forI (.nm 4) (.seq (.metc 0 (.var 0) [(.sub (.var 2) (.var 3))])) [.ite (.bop .And [(.cmp .NotIn (.var 4) (.var 1)), (.cmp .NotEq (.var 4) (.att 0 (.var 0)))]) [.put (.var 1) (.var 4) (.sub (.var 2) (.var 3)), .ex (.met .append (.var 2) [(.var 4)])] []], .aug 3 .Add (.lit (.int 1))], .ret (.call 18 [(.var 1), (.sub (.var 2) (.var 3))])]
theorem h51 : (cmN gt 80).Ss c51 (defBody s51) = some i51 := by kernel_rfl
def i52 : List IS := [.asg (.tp [(.nm 3), (.nm 4)]) (.var 1), .asg (.nm 5) (.lst []), .ite (.cmp .Eq (.var 4) (.glb 25)) [.asg (.nm 5) (.lc (.tup [(.var 6), (.glb 24)]) (.nm 6) (.seq (.metc 0 (.var 0) [(.var 3)])) [(.cmp .NotEq (.met .get1 (.var 2) [(.var 6)]) (.var 3))] [6]), .ret (.ite (.cmp .In (.var 3) (.var 2)) (.bin .Add (.var 5) (.lst [(.tup [(.var 3), (.glb 24)])])) (.var 5))] [], .ite (.cmp .In (.var 3) (.var 2)) [.ret (.lst [(.tup [(.sub (.var 2) (.var 3)), (.glb 25)])])] [], .ret (.ite (.metc 1 (.var 0) [(.var 3)]) (.lst []) (.lst [(.tup [(.var 3), (.glb 25)])]))]
theorem h52 : (cmN gt 80).Ss c52 (defBody s52) = some i52 := by kernel_rfl
def i53 : List IS := [.asg (.nm 2) (.dc (.var 4) (.var 3) (.tp [(.nm 3), (.nm 4)]) (.zp (.var 1) (.slc (.var 1) (some (.lit (.int 1))) none)) [] [3, 4]), .asg (.nm 5) (.tup [(.att 3 (.var 0)), (.glb 25)]), .par [6, 7] [(.dlit (.var 5) (.lit .non)), (.lst [(.var 5)])], .whl (.cmp .NotEq (.var 7) (.lst [])) [.asg (.nm 8) (.met .pop (.var 7) []), .ite (.bop .And [(.cmp .Eq (.sub (.var 8) (.lit (.int 1))) (.glb 24)), (.cmp .NotIn (.sub (.var 8) (.lit (.int 0))) (.var 2)), (.metc 1 (.var 0) [(.sub (.var 8) (.lit (.int 0)))])]) [.ret (.call 18 [(.var 6), (.var 8)])] [], .forI (.nm 9) (.seq (.metc 3 (.var 0) [(.var 8), (.var 2)])) [.ite (.cmp .NotIn (.var 9) (.var 6)) [.put (.var 6) (.var 9) (.var 8), .ex (.met .append (.var 7) [(.var 9)])] []]], .ret (.lit .non)]
theorem h53 : (cmN gt 80).Ss c53 (defBody s53) = some i53 := by kernel_rfl
def i54 : List IS := [.asg (.nm 3) (.dc (.var 4) (.lit (.bl true)) (.nm 4) (.zpN (.var 1) (.slc (.var 1) (some (.lit (.int 1))) none)) [] [4]), .forI (.tp [(.tp [(.nm 5), (.nm 6)]), (.tp [(.nm 7), (.nm 8)])]) (.zp (.var 2) (.slc (.var 2) (some (.lit (.int 1))) none)) [.ite (.bop .And [(.cmp .Eq (.var 6) (.glb 25)), (.cmp .Eq (.var 8) (.glb 24)), (.cmp .NotEq (.var 5) (.var 7))]) [.put (.var 3) (.tup [(.var 5), (.var 7)]) (.lit (.bl true))] [.ite (.bop .And [(.cmp .Eq (.var 6) (.glb 24)), (.cmp .Eq (.var 8) (.glb 25)), (.cmp .NotEq (.var 5) (.var 7))]) [.ex (.met .pop1 (.var 3) [(.tup [(.var 7), (.var 5)])])] []]], .asg (.nm 9) (.lst []), .forI (.tp [(.nm 10), (.nm 11)]) (.seq (.lc (.var 4) (.nm 4) (.seq (.bi .sorted [(.var 3)])) [(.cmp .Eq (.sub (.var 4) (.lit (.int 0))) (.att 3 (.var 0)))] [4])) [.asg (.nm 12) (.lst [(.var 10), (.var 11)]), .whl (.not (.metc 1 (.var 0) [(.sub (.var 12) (.neg (.lit (.int 1))))])) [.ex (.met .append (.var 12) [(.sub (.lc (.var 7) (.tp [(.nm 5), (.nm 7)]) (.seq (.bi .sorted [(.var 3)])) [(.cmp .Eq (.var 5) (.sub (.var 12) (.neg (.lit (.int 1)))))] [5, 7]) (.lit (.int 0)))])], .ex (.met .append (.var 9) [(.bi .tuple [(.lc (.ite (.cmp .Eq (.var 13) (.att 0 (.var 0))) (.att 3 (.var 0)) (.var 13)) (.nm 13) (.seq (.var 12)) [] [13])])])], .ret (.var 9)]
theorem h54 : (cmN gt 80).Ss c54 (defBody s54) = some i54 := by kernel_rfl
def i55 : List IS := [.asg (.tp [(.nm 2), (.nm 3)]) (.tup [.dnil, (.lst [(.att 3 (.var 0))])]), .whl (.cmp .NotEq (.var 3) (.lst [])) [.asg (.nm 4) (.lc (.var 5) (.nm 5) (.seq (.metc 0 (.var 0) [(.met .pop (.var 3) [])])) [(.bop .And [(.cmp .NotEq (.var 5) (.var 1)), (.cmp .NotIn (.var 5) (.var 2))])] [5]), .ex (.met .update (.var 2) [(.dc (.var 5) (.lit (.bl true)) (.nm 5) (.seq (.var 4)) [] [5])]), .ex (.met .extend (.var 3) [(.lc (.var 5) (.nm 5) (.seq (.var 4)) [(.not (.metc 1 (.var 0) [(.var 5)]))] [5])])], .ret (.var 2)]
theorem h55 : (cmN gt 80).Ss c55 (defBody s55) = some i55 := by kernel_rfl
theorem h56r : (cmN gt 80).Ss c56 ((defBody s56).drop 1) = some iSpinsR := by kernel_rfl
def i57 : List IS := [.forI (.nm 1) (.rng1 (.few 3)) [.asg (.nm 2) (.spns (.var 1)), .forI (.nm 3) (.rng1 (.lit (.int 4))) [.ite (.not (.call 47 [(.var 2)])) [.ret (.lit (.bl false))] []]], .ret (.lit (.bl true))]
theorem h57 : (cmN gt 80).Ss c57 (defBody s57) = some i57 := by kernel_rfl
def supF (i j : Nat) : Bool := (Nat.beq i 0 && Nat.beq j 0) || (Nat.beq i 1 && Nat.beq j 0) || (Nat.beq i 1 && Nat.beq j 1) || (Nat.beq i 2 && Nat.beq j 0) || (Nat.beq i 2 && Nat.beq j 2) || (Nat.beq i 3 && Nat.beq j 3)
def fldP (i : Nat) (f : Str) : Bool := (Nat.beq i 3 && f == (⟨#[103, 105, 118, 101, 110]⟩ : Str))
def kwT : List (Nat × (Nat × Str)) := []
def clsT : List Cl := [⟨[], [], []⟩, ⟨[], [], []⟩, ⟨[], [], []⟩, ⟨[], [], []⟩, ⟨[(0, 0), (1, 1), (2, 2), (3, 3)], [], [(0, 49), (1, 50), (2, 51), (3, 52), (4, 53), (5, 54), (6, 55)]⟩]
def rr16_0 : List Uv := [(.tup [(.tup [(.str ⟨#[115, 101, 116]⟩), (.str ⟨#[120]⟩), (.tup []), (.int (1))]), (.tup [(.str ⟨#[97, 115, 107]⟩), (.tup [(.str ⟨#[120]⟩)]), (.tup [(.int (2)), (.int (3))])]), (.tup [(.str ⟨#[115, 104, 111, 119]⟩), (.tup [(.str ⟨#[120]⟩)]), (.int (0))])])]
def rr16_0r : Mr := .ok .non
def rr16_1 : List Uv := [.non]
def rr16_1r : Mr := .exc 1 []
def rr16_2 : List Uv := [(.tup [])]
def rr16_2r : Mr := .exc 1 []
def rr16_3 : List Uv := [(.str ⟨#[99, 104, 97, 114, 116]⟩)]
def rr16_3r : Mr := .exc 1 []
def rr16_4 : List Uv := [(.tup [(.tup [(.str ⟨#[97, 115, 107]⟩), (.tup []), (.tup [(.int (0)), (.int (0))])])])]
def rr16_4r : Mr := .exc 1 []
def rr16_5 : List Uv := [(.tup [(.tup [(.str ⟨#[115, 104, 111, 119]⟩), (.tup []), (.int (2))]), (.tup [(.str ⟨#[115, 104, 111, 119]⟩), (.tup []), (.int (2))])])]
def rr16_5r : Mr := .exc 1 []
def rr16_6 : List Uv := [(.tup [(.tup [(.str ⟨#[97, 115, 107]⟩), (.tup [(.str ⟨#[120]⟩)]), (.tup [(.int (2)), (.int (3))])]), (.tup [(.str ⟨#[115, 104, 111, 119]⟩), (.tup [(.str ⟨#[120]⟩)]), (.int (0))])])]
def rr16_6r : Mr := .exc 1 []
def rr16_7 : List Uv := [(.tup [(.tup [(.str ⟨#[115, 104, 111, 119]⟩), (.tup []), (.bl true)])])]
def rr16_7r : Mr := .exc 1 []
def rr16_8 : List Uv := [(.tup [(.tup [(.str ⟨#[115, 101, 116]⟩), (.str ⟨#[120]⟩), (.tup []), (.int (1))]), (.tup [(.str ⟨#[97, 115, 107]⟩), (.tup [(.str ⟨#[120]⟩)]), (.tup [(.int (2)), (.int (3))])]), (.tup [(.str ⟨#[115, 104, 111, 119]⟩), (.tup [(.str ⟨#[120]⟩)]), (.int (0))]), (.int (3))])]
def rr16_8r : Mr := .exc 1 []
def rr16 : Mem := [(rr16_0, 8, rr16_0r), (rr16_1, 8, rr16_1r), (rr16_2, 8, rr16_2r), (rr16_3, 8, rr16_3r), (rr16_4, 8, rr16_4r), (rr16_5, 8, rr16_5r), (rr16_6, 8, rr16_6r), (rr16_7, 8, rr16_7r), (rr16_8, 8, rr16_8r)]
def rr34_0 : List Uv := [(.tup [(.tup [(.str ⟨#[115, 101, 116]⟩), (.str ⟨#[120]⟩), (.tup []), (.int (1))]), (.tup [(.str ⟨#[97, 115, 107]⟩), (.tup [(.str ⟨#[120]⟩)]), (.tup [(.int (2)), (.int (3))])]), (.tup [(.str ⟨#[115, 104, 111, 119]⟩), (.tup [(.str ⟨#[120]⟩)]), (.int (0))])]), .non]
def rr34_0r : Mr := .exc 2 []
def rr34_1 : List Uv := [(.tup [(.tup [(.str ⟨#[115, 101, 116]⟩), (.str ⟨#[120]⟩), (.tup []), (.int (1))]), (.tup [(.str ⟨#[97, 115, 107]⟩), (.tup [(.str ⟨#[120]⟩)]), (.tup [(.int (2)), (.int (3))])]), (.tup [(.str ⟨#[115, 104, 111, 119]⟩), (.tup [(.str ⟨#[120]⟩)]), (.int (0))])]), (.int (0))]
def rr34_1r : Mr := .exc 2 []
def rr34_2 : List Uv := [(.tup [(.tup [(.str ⟨#[115, 101, 116]⟩), (.str ⟨#[120]⟩), (.tup []), (.int (1))]), (.tup [(.str ⟨#[97, 115, 107]⟩), (.tup [(.str ⟨#[120]⟩)]), (.tup [(.int (2)), (.int (3))])]), (.tup [(.str ⟨#[115, 104, 111, 119]⟩), (.tup [(.str ⟨#[120]⟩)]), (.int (0))])]), (.tup [(.int (3))])]
def rr34_2r : Mr := .exc 2 []
def rr34_3 : List Uv := [(.tup [(.tup [(.str ⟨#[115, 101, 116]⟩), (.str ⟨#[120]⟩), (.tup []), (.int (1))]), (.tup [(.str ⟨#[97, 115, 107]⟩), (.tup [(.str ⟨#[120]⟩)]), (.tup [(.int (2)), (.int (3))])]), (.tup [(.str ⟨#[115, 104, 111, 119]⟩), (.tup [(.str ⟨#[120]⟩)]), (.int (0))])]), (.tup [(.int (1)), (.int (1))])]
def rr34_3r : Mr := .exc 2 []
def rr34_4 : List Uv := [(.tup [(.tup [(.str ⟨#[115, 101, 116]⟩), (.str ⟨#[120]⟩), (.tup []), (.int (1))]), (.tup [(.str ⟨#[97, 115, 107]⟩), (.tup [(.str ⟨#[120]⟩)]), (.tup [(.int (2)), (.int (3))])]), (.tup [(.str ⟨#[115, 104, 111, 119]⟩), (.tup [(.str ⟨#[120]⟩)]), (.int (0))])]), (.tup [(.int (2)), (.int (1))])]
def rr34_4r : Mr := .exc 2 []
def rr34_5 : List Uv := [(.tup [(.tup [(.str ⟨#[115, 101, 116]⟩), (.str ⟨#[120]⟩), (.tup []), (.int (1))]), (.tup [(.str ⟨#[97, 115, 107]⟩), (.tup [(.str ⟨#[120]⟩)]), (.tup [(.int (2)), (.int (3))])]), (.tup [(.str ⟨#[115, 104, 111, 119]⟩), (.tup [(.str ⟨#[120]⟩)]), (.int (0))])]), (.tup [(.bl true)])]
def rr34_5r : Mr := .exc 2 []
def rr34_6 : List Uv := [(.tup [(.tup [(.str ⟨#[115, 101, 116]⟩), (.str ⟨#[120]⟩), (.tup []), (.int (1))]), (.tup [(.str ⟨#[97, 115, 107]⟩), (.tup [(.str ⟨#[120]⟩)]), (.tup [(.int (2)), (.int (3))])]), (.tup [(.str ⟨#[115, 104, 111, 119]⟩), (.tup [(.str ⟨#[120]⟩)]), (.int (0))])]), (.tup [(.int (-1))])]
def rr34_6r : Mr := .exc 2 []
def rr34_7 : List Uv := [(.tup [(.tup [(.str ⟨#[115, 101, 116]⟩), (.str ⟨#[120]⟩), (.tup []), (.int (1))]), (.tup [(.str ⟨#[97, 115, 107]⟩), (.tup [(.str ⟨#[120]⟩)]), (.tup [(.int (2)), (.int (3))])]), (.tup [(.str ⟨#[115, 104, 111, 119]⟩), (.tup [(.str ⟨#[120]⟩)]), (.int (0))])]), (.tup [(.str ⟨#[49]⟩)])]
def rr34_7r : Mr := .exc 2 []
def rr34_8 : List Uv := [(.tup [(.tup [(.str ⟨#[115, 101, 116]⟩), (.str ⟨#[120]⟩), (.tup []), (.int (1))]), (.tup [(.str ⟨#[97, 115, 107]⟩), (.tup [(.str ⟨#[120]⟩)]), (.tup [(.int (2)), (.int (3))])]), (.tup [(.str ⟨#[115, 104, 111, 119]⟩), (.tup [(.str ⟨#[120]⟩)]), (.int (0))])]), (.tup [(.int (0)), (.int (3))])]
def rr34_8r : Mr := .exc 2 []
def rr34_9 : List Uv := [(.tup [(.tup [(.str ⟨#[115, 101, 116]⟩), (.str ⟨#[120]⟩), (.tup []), (.int (1))]), (.tup [(.str ⟨#[97, 115, 107]⟩), (.tup [(.str ⟨#[120]⟩)]), (.tup [(.int (2)), (.int (3))])]), (.tup [(.str ⟨#[115, 104, 111, 119]⟩), (.tup [(.str ⟨#[120]⟩)]), (.int (0))])]), (.tup [.non])]
def rr34_9r : Mr := .exc 2 []
def rr34_10 : List Uv := [(.tup [(.tup [(.str ⟨#[115, 101, 116]⟩), (.str ⟨#[120]⟩), (.tup []), (.int (1))]), (.tup [(.str ⟨#[97, 115, 107]⟩), (.tup [(.str ⟨#[120]⟩)]), (.tup [(.int (2)), (.int (3))])]), (.tup [(.str ⟨#[115, 104, 111, 119]⟩), (.tup [(.str ⟨#[120]⟩)]), (.int (0))])]), (.tup [])]
def rr34_10r : Mr := .ok .non
def rr34_11 : List Uv := [(.tup [(.tup [(.str ⟨#[115, 101, 116]⟩), (.str ⟨#[120]⟩), (.tup []), (.int (1))]), (.tup [(.str ⟨#[97, 115, 107]⟩), (.tup [(.str ⟨#[120]⟩)]), (.tup [(.int (2)), (.int (3))])]), (.tup [(.str ⟨#[115, 104, 111, 119]⟩), (.tup [(.str ⟨#[120]⟩)]), (.int (0))])]), (.tup [(.int (0)), (.int (2))])]
def rr34_11r : Mr := .ok .non
def rr34_12 : List Uv := [(.tup [(.tup [(.str ⟨#[115, 101, 116]⟩), (.str ⟨#[120]⟩), (.tup []), (.int (1))]), (.tup [(.str ⟨#[97, 115, 107]⟩), (.tup [(.str ⟨#[120]⟩)]), (.tup [(.int (2)), (.int (3))])]), (.tup [(.str ⟨#[115, 104, 111, 119]⟩), (.tup [(.str ⟨#[120]⟩)]), (.int (0))])]), (.tup [(.int (0)), (.int (1)), (.int (2))])]
def rr34_12r : Mr := .ok .non
def rr34 : Mem := [(rr34_0, 8, rr34_0r), (rr34_1, 8, rr34_1r), (rr34_2, 8, rr34_2r), (rr34_3, 8, rr34_3r), (rr34_4, 8, rr34_4r), (rr34_5, 8, rr34_5r), (rr34_6, 8, rr34_6r), (rr34_7, 8, rr34_7r), (rr34_8, 8, rr34_8r), (rr34_9, 8, rr34_9r), (rr34_10, 8, rr34_10r), (rr34_11, 8, rr34_11r), (rr34_12, 8, rr34_12r)]
def rr19_0 : List Uv := [(.tup [(.tup [(.str ⟨#[115, 101, 116]⟩), (.str ⟨#[120]⟩), (.tup []), (.int (1))]), (.tup [(.str ⟨#[97, 115, 107]⟩), (.tup [(.str ⟨#[120]⟩)]), (.tup [(.int (2)), (.int (3))])]), (.tup [(.str ⟨#[115, 104, 111, 119]⟩), (.tup [(.str ⟨#[120]⟩)]), (.int (0))])]), (.int (2)), (.int (3))]
def rr19_0r : Mr := .ok (.tup [(.int (2)), (.int (0)), (.int (1)), (.int (3))])
def rr19 : Mem := [(rr19_0, 14, rr19_0r)]
def rr22_0 : List Uv := [(.tup [(.tup [(.str ⟨#[115, 101, 116]⟩), (.str ⟨#[120]⟩), (.tup []), (.int (1))]), (.tup [(.str ⟨#[97, 115, 107]⟩), (.tup [(.str ⟨#[120]⟩)]), (.tup [(.int (2)), (.int (3))])]), (.tup [(.str ⟨#[115, 104, 111, 119]⟩), (.tup [(.str ⟨#[120]⟩)]), (.int (0))])]), (.tup [(.int (0)), (.int (1)), (.int (2))]), (.int (2))]
def rr22_0r : Mr := .ok (.tup [(.int (2))])
def rr22 : Mem := [(rr22_0, 14, rr22_0r)]
def rr23_0 : List Uv := [(.tup [(.tup [(.str ⟨#[115, 101, 116]⟩), (.str ⟨#[120]⟩), (.tup []), (.int (1))]), (.tup [(.str ⟨#[97, 115, 107]⟩), (.tup [(.str ⟨#[120]⟩)]), (.tup [(.int (2)), (.int (3))])]), (.tup [(.str ⟨#[115, 104, 111, 119]⟩), (.tup [(.str ⟨#[120]⟩)]), (.int (0))])]), (.tup [(.int (0)), (.int (1)), (.int (2))]), (.int (2))]
def rr23_0r : Mr := .ok (.tup [(.str ⟨#[116, 104, 114, 111, 117, 103, 104]⟩), (.int (0)), (.tup [])])
def rr23 : Mem := [(rr23_0, 14, rr23_0r)]
def rr29_0 : List Uv := [(.tup [(.tup [(.str ⟨#[115, 101, 116]⟩), (.str ⟨#[120]⟩), (.tup []), (.int (1))]), (.tup [(.str ⟨#[97, 115, 107]⟩), (.tup [(.str ⟨#[120]⟩)]), (.tup [(.int (2)), (.int (3))])]), (.tup [(.str ⟨#[115, 104, 111, 119]⟩), (.tup [(.str ⟨#[120]⟩)]), (.int (0))])]), (.tup [])]
def rr29_0r : Mr := .ok (.tup [(.str ⟨#[114, 105, 110, 103]⟩), (.tup [(.int (0)), (.int (1)), (.int (2))])])
def rr29 : Mem := [(rr29_0, 14, rr29_0r)]
def prg : Pr := ⟨[.code 1 1 i0, .code 3 3 i1, .code 1 2 i2, .code 3 3 i3, .code 1 1 i4, .code 2 3 i5, .code 1 2 i6, .code 2 3 i7, .code 2 2 i8, .code 2 5 i9, .code 1 4 i10, .code 2 6 i11, .code 1 4 i12, .code 1 3 i13, .code 1 5 i14, .code 1 1 i15, .memo 1 1 i16 rr16, .code 2 2 i17, .code 2 3 i18, .memo 3 8 i19 rr19, .code 2 6 i20, .code 2 4 i21, .memo 3 10 i22 rr22, .memo 3 9 i23 rr23, .code 2 4 i24, .code 2 3 i25, .code 3 8 i26, .code 4 6 i27, .code 3 4 i28, .memo 2 10 i29 rr29, .code 3 6 i30, .code 3 7 i31, .code 3 6 i32, .code 2 5 i33, .memo 2 2 i34 rr34, .code 2 2 i35, .code 3 3 i36, .code 3 3 i37, .code 4 4 i38, .code 3 3 i39, .code 3 3 i40, .code 4 4 i41, .code 2 2 i42, .code 3 3 i43, .spin, .code 2 2 i45, .code 1 2 i46, .code 1 13 i47, .code 4 4 i48, .code 2 4 i49, .code 2 2 i50, .code 1 5 i51, .code 3 7 i52, .code 2 10 i53, .code 3 14 i54, .code 2 6 i55, .code 3 3 [.ret lam0], .code 3 3 [.ret lam1], .code 2 2 [.ret lam2]], gvs, supF, fldP, 4, 56, clsT, kwT⟩
def prl : Pr := ⟨[.code 1 1 i0, .code 3 3 i1, .code 1 2 i2, .code 3 3 i3, .code 1 1 i4, .code 2 3 i5, .code 1 2 i6, .code 2 3 i7, .code 2 2 i8, .code 2 5 i9, .code 1 4 i10, .code 2 6 i11, .code 1 4 i12, .code 1 3 i13, .code 1 5 i14, .code 1 1 i15, .code 1 1 i16, .code 2 2 i17, .code 2 3 i18, .code 3 8 i19, .code 2 6 i20, .code 2 4 i21, .code 3 10 i22, .code 3 9 i23, .code 2 4 i24, .code 2 3 i25, .code 3 8 i26, .code 4 6 i27, .code 3 4 i28, .code 2 10 i29, .code 3 6 i30, .code 3 7 i31, .code 3 6 i32, .code 2 5 i33, .code 2 2 i34, .code 2 2 i35, .code 3 3 i36, .code 3 3 i37, .code 4 4 i38, .code 3 3 i39, .code 3 3 i40, .code 4 4 i41, .code 2 2 i42, .code 3 3 i43, .spin, .code 2 2 i45, .code 1 2 i46, .yes 21, .code 4 4 i48, .code 2 4 i49, .code 2 2 i50, .code 1 5 i51, .code 3 7 i52, .code 2 10 i53, .code 3 14 i54, .code 2 6 i55, .code 3 3 [.ret lam0], .code 3 3 [.ret lam1], .code 2 2 [.ret lam2]], gvs, supF, fldP, 4, 56, clsT, kwT⟩
end K17
end Rf
set_option maxHeartbeats 4000000
namespace Rf
namespace K17
open PySem PySem.Spec PyProof.Rows L2 LamX RfE
def nm : Nm := ⟨("is_integer", none) :: ("is_within", none) :: ("is_name", none) :: ("require_within", none) :: ("uses_of", none) :: ("follows_in", none) :: ("are_uses", none) :: ("are_ways", none) :: ("is_step", none) :: ("behind_in", none) :: ("ahead_in", none) :: ("leading_in", none) :: ("names_in", none) :: ("form_fault", none) :: ("fault_in", none) :: ("is_chart_in", none) :: ("require_chart", none) :: ("require_step", none) :: ("led_back", none) :: ("way_in", none) :: ("is_way_in", none) :: ("kept_in", none) :: ("firsts_in", none) :: ("roads_or_through_in", none) :: ("is_road", none) :: ("are_apart", none) :: ("is_closed_through", none) :: ("is_roads_or_through_in", none) :: ("left_goals", none) :: ("ring_or_order_in", none) :: ("is_ring_in", none) :: ("is_order_in", none) :: ("is_ring_or_order_in", none) :: ("is_lot_in", none) :: ("require_lot", none) :: ("require_lot_of", none) :: ("require_ends", none) :: ("way", none) :: ("is_way", none) :: ("firsts", none) :: ("roads_or_through", none) :: ("is_roads_or_through", none) :: ("ring_or_order", none) :: ("is_ring_or_order", none) :: ("_law_spin", none) :: ("_law_among", none) :: ("_law_met", none) :: ("_law_right", none) :: ("Roads", some ("__init__" : Str)) :: ("Roads", some ("goals" : Str)) :: ("Roads", some ("is_end" : Str)) :: ("Roads", some ("first_road" : Str)) :: ("Roads", some ("moves" : Str)) :: ("Roads", some ("second_places" : Str)) :: ("Roads", some ("joined" : Str)) :: ("Roads", some ("reached_without" : Str)) :: ("_law_spins", none) :: ("law", none) :: [], ["StepError", "InvalidChart", "InvalidLot", "InvalidNumber", "Roads"], [], []⟩
def d0 : He.DefD := ⟨("is_integer", none), "is_integer", "is_integer", defArgs s0, defBody s0, defScope s0, [], []⟩
theorem sc0 : FnScope N0 ["value"] (defScope s0) := ⟨rfl, rfl, rfl, by decide +kernel, rfl, by decide +kernel, by decide +kernel⟩
theorem b0 : ∀ (kV doc pm : Value) (an : Option Addr) (cdv ct : Value) (us : List Value), us.length = (["value"] : List Str).length → bindArgs (PySem.W.fnOf d0.name d0.qual d0.params d0.body d0.scope .none kV doc pm an cdv ct) ⟨us, []⟩ = pure ((["value"] : List Str).zip us) := fun _ _ _ _ _ _ us hl => match us, hl with | [_], _ => rfl
def d1 : He.DefD := ⟨("is_within", none), "is_within", "is_within", defArgs s1, defBody s1, defScope s1, [], []⟩
theorem sc1 : FnScope N1 ["value", "least", "most"] (defScope s1) := ⟨rfl, rfl, rfl, by decide +kernel, rfl, by decide +kernel, by decide +kernel⟩
theorem b1 : ∀ (kV doc pm : Value) (an : Option Addr) (cdv ct : Value) (us : List Value), us.length = (["value", "least", "most"] : List Str).length → bindArgs (PySem.W.fnOf d1.name d1.qual d1.params d1.body d1.scope .none kV doc pm an cdv ct) ⟨us, []⟩ = pure ((["value", "least", "most"] : List Str).zip us) := fun _ _ _ _ _ _ us hl => match us, hl with | [_, _, _], _ => rfl
def d2 : He.DefD := ⟨("is_name", none), "is_name", "is_name", defArgs s2, defBody s2, defScope s2, [], []⟩
theorem sc2 : FnScope N2 ["value"] (defScope s2) := ⟨rfl, rfl, rfl, by decide +kernel, rfl, by decide +kernel, by decide +kernel⟩
theorem b2 : ∀ (kV doc pm : Value) (an : Option Addr) (cdv ct : Value) (us : List Value), us.length = (["value"] : List Str).length → bindArgs (PySem.W.fnOf d2.name d2.qual d2.params d2.body d2.scope .none kV doc pm an cdv ct) ⟨us, []⟩ = pure ((["value"] : List Str).zip us) := fun _ _ _ _ _ _ us hl => match us, hl with | [_], _ => rfl
def d3 : He.DefD := ⟨("require_within", none), "require_within", "require_within", defArgs s3, defBody s3, defScope s3, [], []⟩
theorem sc3 : FnScope N3 ["value", "least", "most"] (defScope s3) := ⟨rfl, rfl, rfl, by decide +kernel, rfl, by decide +kernel, by decide +kernel⟩
theorem b3 : ∀ (kV doc pm : Value) (an : Option Addr) (cdv ct : Value) (us : List Value), us.length = (["value", "least", "most"] : List Str).length → bindArgs (PySem.W.fnOf d3.name d3.qual d3.params d3.body d3.scope .none kV doc pm an cdv ct) ⟨us, []⟩ = pure ((["value", "least", "most"] : List Str).zip us) := fun _ _ _ _ _ _ us hl => match us, hl with | [_, _, _], _ => rfl
def d4 : He.DefD := ⟨("uses_of", none), "uses_of", "uses_of", defArgs s4, defBody s4, defScope s4, [], []⟩
theorem sc4 : FnScope N4 ["step"] (defScope s4) := ⟨rfl, rfl, rfl, by decide +kernel, rfl, by decide +kernel, by decide +kernel⟩
theorem b4 : ∀ (kV doc pm : Value) (an : Option Addr) (cdv ct : Value) (us : List Value), us.length = (["step"] : List Str).length → bindArgs (PySem.W.fnOf d4.name d4.qual d4.params d4.body d4.scope .none kV doc pm an cdv ct) ⟨us, []⟩ = pure ((["step"] : List Str).zip us) := fun _ _ _ _ _ _ us hl => match us, hl with | [_], _ => rfl
def d5 : He.DefD := ⟨("follows_in", none), "follows_in", "follows_in", defArgs s5, defBody s5, defScope s5, [], []⟩
theorem sc5 : FnScope N5 ["chart", "at"] (defScope s5) := ⟨rfl, rfl, rfl, by decide +kernel, rfl, by decide +kernel, by decide +kernel⟩
theorem b5 : ∀ (kV doc pm : Value) (an : Option Addr) (cdv ct : Value) (us : List Value), us.length = (["chart", "at"] : List Str).length → bindArgs (PySem.W.fnOf d5.name d5.qual d5.params d5.body d5.scope .none kV doc pm an cdv ct) ⟨us, []⟩ = pure ((["chart", "at"] : List Str).zip us) := fun _ _ _ _ _ _ us hl => match us, hl with | [_, _], _ => rfl
def d6 : He.DefD := ⟨("are_uses", none), "are_uses", "are_uses", defArgs s6, defBody s6, defScope s6, [], []⟩
theorem sc6 : FnScope N6 ["value"] (defScope s6) := ⟨rfl, rfl, rfl, by decide +kernel, rfl, by decide +kernel, by decide +kernel⟩
theorem b6 : ∀ (kV doc pm : Value) (an : Option Addr) (cdv ct : Value) (us : List Value), us.length = (["value"] : List Str).length → bindArgs (PySem.W.fnOf d6.name d6.qual d6.params d6.body d6.scope .none kV doc pm an cdv ct) ⟨us, []⟩ = pure ((["value"] : List Str).zip us) := fun _ _ _ _ _ _ us hl => match us, hl with | [_], _ => rfl
def d7 : He.DefD := ⟨("are_ways", none), "are_ways", "are_ways", defArgs s7, defBody s7, defScope s7, [], []⟩
theorem sc7 : FnScope N7 ["value", "size"] (defScope s7) := ⟨rfl, rfl, rfl, by decide +kernel, rfl, by decide +kernel, by decide +kernel⟩
theorem b7 : ∀ (kV doc pm : Value) (an : Option Addr) (cdv ct : Value) (us : List Value), us.length = (["value", "size"] : List Str).length → bindArgs (PySem.W.fnOf d7.name d7.qual d7.params d7.body d7.scope .none kV doc pm an cdv ct) ⟨us, []⟩ = pure ((["value", "size"] : List Str).zip us) := fun _ _ _ _ _ _ us hl => match us, hl with | [_, _], _ => rfl
def d8 : He.DefD := ⟨("is_step", none), "is_step", "is_step", defArgs s8, defBody s8, defScope s8, [], []⟩
theorem sc8 : FnScope N8 ["value", "size"] (defScope s8) := ⟨rfl, rfl, rfl, by decide +kernel, rfl, by decide +kernel, by decide +kernel⟩
theorem b8 : ∀ (kV doc pm : Value) (an : Option Addr) (cdv ct : Value) (us : List Value), us.length = (["value", "size"] : List Str).length → bindArgs (PySem.W.fnOf d8.name d8.qual d8.params d8.body d8.scope .none kV doc pm an cdv ct) ⟨us, []⟩ = pure ((["value", "size"] : List Str).zip us) := fun _ _ _ _ _ _ us hl => match us, hl with | [_, _], _ => rfl
def d9 : He.DefD := ⟨("behind_in", none), "behind_in", "behind_in", defArgs s9, defBody s9, defScope s9, [], []⟩
theorem sc9 : FnScope N9 ["chart", "starts"] (defScope s9) := ⟨rfl, rfl, rfl, by decide +kernel, rfl, by decide +kernel, by decide +kernel⟩
theorem b9 : ∀ (kV doc pm : Value) (an : Option Addr) (cdv ct : Value) (us : List Value), us.length = (["chart", "starts"] : List Str).length → bindArgs (PySem.W.fnOf d9.name d9.qual d9.params d9.body d9.scope .none kV doc pm an cdv ct) ⟨us, []⟩ = pure ((["chart", "starts"] : List Str).zip us) := fun _ _ _ _ _ _ us hl => match us, hl with | [_, _], _ => rfl
def d10 : He.DefD := ⟨("ahead_in", none), "ahead_in", "ahead_in", defArgs s10, defBody s10, defScope s10, [], []⟩
theorem sc10 : FnScope N10 ["chart"] (defScope s10) := ⟨rfl, rfl, rfl, by decide +kernel, rfl, by decide +kernel, by decide +kernel⟩
theorem b10 : ∀ (kV doc pm : Value) (an : Option Addr) (cdv ct : Value) (us : List Value), us.length = (["chart"] : List Str).length → bindArgs (PySem.W.fnOf d10.name d10.qual d10.params d10.body d10.scope .none kV doc pm an cdv ct) ⟨us, []⟩ = pure ((["chart"] : List Str).zip us) := fun _ _ _ _ _ _ us hl => match us, hl with | [_], _ => rfl
def d11 : He.DefD := ⟨("leading_in", none), "leading_in", "leading_in", defArgs s11, defBody s11, defScope s11, [], []⟩
theorem sc11 : FnScope N11 ["chart", "index"] (defScope s11) := ⟨rfl, rfl, rfl, by decide +kernel, rfl, by decide +kernel, by decide +kernel⟩
theorem b11 : ∀ (kV doc pm : Value) (an : Option Addr) (cdv ct : Value) (us : List Value), us.length = (["chart", "index"] : List Str).length → bindArgs (PySem.W.fnOf d11.name d11.qual d11.params d11.body d11.scope .none kV doc pm an cdv ct) ⟨us, []⟩ = pure ((["chart", "index"] : List Str).zip us) := fun _ _ _ _ _ _ us hl => match us, hl with | [_, _], _ => rfl
def d12 : He.DefD := ⟨("names_in", none), "names_in", "names_in", defArgs s12, defBody s12, defScope s12, [], []⟩
theorem sc12 : FnScope N12 ["chart"] (defScope s12) := ⟨rfl, rfl, rfl, by decide +kernel, rfl, by decide +kernel, by decide +kernel⟩
theorem b12 : ∀ (kV doc pm : Value) (an : Option Addr) (cdv ct : Value) (us : List Value), us.length = (["chart"] : List Str).length → bindArgs (PySem.W.fnOf d12.name d12.qual d12.params d12.body d12.scope .none kV doc pm an cdv ct) ⟨us, []⟩ = pure ((["chart"] : List Str).zip us) := fun _ _ _ _ _ _ us hl => match us, hl with | [_], _ => rfl
def d13 : He.DefD := ⟨("form_fault", none), "form_fault", "form_fault", defArgs s13, defBody s13, defScope s13, [], []⟩
theorem sc13 : FnScope N13 ["value"] (defScope s13) := ⟨rfl, rfl, rfl, by decide +kernel, rfl, by decide +kernel, by decide +kernel⟩
theorem b13 : ∀ (kV doc pm : Value) (an : Option Addr) (cdv ct : Value) (us : List Value), us.length = (["value"] : List Str).length → bindArgs (PySem.W.fnOf d13.name d13.qual d13.params d13.body d13.scope .none kV doc pm an cdv ct) ⟨us, []⟩ = pure ((["value"] : List Str).zip us) := fun _ _ _ _ _ _ us hl => match us, hl with | [_], _ => rfl
def d14 : He.DefD := ⟨("fault_in", none), "fault_in", "fault_in", defArgs s14, defBody s14, defScope s14, [], []⟩
theorem sc14 : FnScope N14 ["value"] (defScope s14) := ⟨rfl, rfl, rfl, by decide +kernel, rfl, by decide +kernel, by decide +kernel⟩
theorem b14 : ∀ (kV doc pm : Value) (an : Option Addr) (cdv ct : Value) (us : List Value), us.length = (["value"] : List Str).length → bindArgs (PySem.W.fnOf d14.name d14.qual d14.params d14.body d14.scope .none kV doc pm an cdv ct) ⟨us, []⟩ = pure ((["value"] : List Str).zip us) := fun _ _ _ _ _ _ us hl => match us, hl with | [_], _ => rfl
def d15 : He.DefD := ⟨("is_chart_in", none), "is_chart_in", "is_chart_in", defArgs s15, defBody s15, defScope s15, [], []⟩
theorem sc15 : FnScope N15 ["value"] (defScope s15) := ⟨rfl, rfl, rfl, by decide +kernel, rfl, by decide +kernel, by decide +kernel⟩
theorem b15 : ∀ (kV doc pm : Value) (an : Option Addr) (cdv ct : Value) (us : List Value), us.length = (["value"] : List Str).length → bindArgs (PySem.W.fnOf d15.name d15.qual d15.params d15.body d15.scope .none kV doc pm an cdv ct) ⟨us, []⟩ = pure ((["value"] : List Str).zip us) := fun _ _ _ _ _ _ us hl => match us, hl with | [_], _ => rfl
def d16 : He.DefD := ⟨("require_chart", none), "require_chart", "require_chart", defArgs s16, defBody s16, defScope s16, [], []⟩
theorem sc16 : FnScope N16 ["value"] (defScope s16) := ⟨rfl, rfl, rfl, by decide +kernel, rfl, by decide +kernel, by decide +kernel⟩
theorem b16 : ∀ (kV doc pm : Value) (an : Option Addr) (cdv ct : Value) (us : List Value), us.length = (["value"] : List Str).length → bindArgs (PySem.W.fnOf d16.name d16.qual d16.params d16.body d16.scope .none kV doc pm an cdv ct) ⟨us, []⟩ = pure ((["value"] : List Str).zip us) := fun _ _ _ _ _ _ us hl => match us, hl with | [_], _ => rfl
def d17 : He.DefD := ⟨("require_step", none), "require_step", "require_step", defArgs s17, defBody s17, defScope s17, [], []⟩
theorem sc17 : FnScope N17 ["chart", "value"] (defScope s17) := ⟨rfl, rfl, rfl, by decide +kernel, rfl, by decide +kernel, by decide +kernel⟩
theorem b17 : ∀ (kV doc pm : Value) (an : Option Addr) (cdv ct : Value) (us : List Value), us.length = (["chart", "value"] : List Str).length → bindArgs (PySem.W.fnOf d17.name d17.qual d17.params d17.body d17.scope .none kV doc pm an cdv ct) ⟨us, []⟩ = pure ((["chart", "value"] : List Str).zip us) := fun _ _ _ _ _ _ us hl => match us, hl with | [_, _], _ => rfl
def d18 : He.DefD := ⟨("led_back", none), "led_back", "led_back", defArgs s18, defBody s18, defScope s18, [], []⟩
theorem sc18 : FnScope N18 ["parents", "at"] (defScope s18) := ⟨rfl, rfl, rfl, by decide +kernel, rfl, by decide +kernel, by decide +kernel⟩
theorem b18 : ∀ (kV doc pm : Value) (an : Option Addr) (cdv ct : Value) (us : List Value), us.length = (["parents", "at"] : List Str).length → bindArgs (PySem.W.fnOf d18.name d18.qual d18.params d18.body d18.scope .none kV doc pm an cdv ct) ⟨us, []⟩ = pure ((["parents", "at"] : List Str).zip us) := fun _ _ _ _ _ _ us hl => match us, hl with | [_, _], _ => rfl
def d19 : He.DefD := ⟨("way_in", none), "way_in", "way_in", defArgs s19, defBody s19, defScope s19, [], []⟩
theorem sc19 : FnScope N19 ["chart", "start", "goal"] (defScope s19) := ⟨rfl, rfl, rfl, by decide +kernel, rfl, by decide +kernel, by decide +kernel⟩
theorem b19 : ∀ (kV doc pm : Value) (an : Option Addr) (cdv ct : Value) (us : List Value), us.length = (["chart", "start", "goal"] : List Str).length → bindArgs (PySem.W.fnOf d19.name d19.qual d19.params d19.body d19.scope .none kV doc pm an cdv ct) ⟨us, []⟩ = pure ((["chart", "start", "goal"] : List Str).zip us) := fun _ _ _ _ _ _ us hl => match us, hl with | [_, _, _], _ => rfl
def d20 : He.DefD := ⟨("is_way_in", none), "is_way_in", "is_way_in", defArgs s20, defBody s20, defScope s20, [], []⟩
theorem sc20 : FnScope N20 ["chart", "value"] (defScope s20) := ⟨rfl, rfl, rfl, by decide +kernel, rfl, by decide +kernel, by decide +kernel⟩
theorem b20 : ∀ (kV doc pm : Value) (an : Option Addr) (cdv ct : Value) (us : List Value), us.length = (["chart", "value"] : List Str).length → bindArgs (PySem.W.fnOf d20.name d20.qual d20.params d20.body d20.scope .none kV doc pm an cdv ct) ⟨us, []⟩ = pure ((["chart", "value"] : List Str).zip us) := fun _ _ _ _ _ _ us hl => match us, hl with | [_, _], _ => rfl
def d21 : He.DefD := ⟨("kept_in", none), "kept_in", "kept_in", defArgs s21, defBody s21, defScope s21, [], []⟩
theorem sc21 : FnScope N21 ["chart", "lot"] (defScope s21) := ⟨rfl, rfl, rfl, by decide +kernel, rfl, by decide +kernel, by decide +kernel⟩
theorem b21 : ∀ (kV doc pm : Value) (an : Option Addr) (cdv ct : Value) (us : List Value), us.length = (["chart", "lot"] : List Str).length → bindArgs (PySem.W.fnOf d21.name d21.qual d21.params d21.body d21.scope .none kV doc pm an cdv ct) ⟨us, []⟩ = pure ((["chart", "lot"] : List Str).zip us) := fun _ _ _ _ _ _ us hl => match us, hl with | [_, _], _ => rfl
def d22 : He.DefD := ⟨("firsts_in", none), "firsts_in", "firsts_in", defArgs s22, defBody s22, defScope s22, [], []⟩
theorem sc22 : FnScope N22 ["chart", "lot", "step"] (defScope s22) := ⟨rfl, rfl, rfl, by decide +kernel, rfl, by decide +kernel, by decide +kernel⟩
theorem b22 : ∀ (kV doc pm : Value) (an : Option Addr) (cdv ct : Value) (us : List Value), us.length = (["chart", "lot", "step"] : List Str).length → bindArgs (PySem.W.fnOf d22.name d22.qual d22.params d22.body d22.scope .none kV doc pm an cdv ct) ⟨us, []⟩ = pure ((["chart", "lot", "step"] : List Str).zip us) := fun _ _ _ _ _ _ us hl => match us, hl with | [_, _, _], _ => rfl
def d23 : He.DefD := ⟨("roads_or_through_in", none), "roads_or_through_in", "roads_or_through_in", defArgs s23, defBody s23, defScope s23, [], []⟩
theorem sc23 : FnScope N23 ["chart", "lot", "step"] (defScope s23) := ⟨rfl, rfl, rfl, by decide +kernel, rfl, by decide +kernel, by decide +kernel⟩
theorem b23 : ∀ (kV doc pm : Value) (an : Option Addr) (cdv ct : Value) (us : List Value), us.length = (["chart", "lot", "step"] : List Str).length → bindArgs (PySem.W.fnOf d23.name d23.qual d23.params d23.body d23.scope .none kV doc pm an cdv ct) ⟨us, []⟩ = pure ((["chart", "lot", "step"] : List Str).zip us) := fun _ _ _ _ _ _ us hl => match us, hl with | [_, _, _], _ => rfl
def d24 : He.DefD := ⟨("is_road", none), "is_road", "is_road", defArgs s24, defBody s24, defScope s24, [], []⟩
theorem sc24 : FnScope N24 ["roads", "value"] (defScope s24) := ⟨rfl, rfl, rfl, by decide +kernel, rfl, by decide +kernel, by decide +kernel⟩
theorem b24 : ∀ (kV doc pm : Value) (an : Option Addr) (cdv ct : Value) (us : List Value), us.length = (["roads", "value"] : List Str).length → bindArgs (PySem.W.fnOf d24.name d24.qual d24.params d24.body d24.scope .none kV doc pm an cdv ct) ⟨us, []⟩ = pure ((["roads", "value"] : List Str).zip us) := fun _ _ _ _ _ _ us hl => match us, hl with | [_, _], _ => rfl
def d25 : He.DefD := ⟨("are_apart", none), "are_apart", "are_apart", defArgs s25, defBody s25, defScope s25, [], []⟩
theorem sc25 : FnScope N25 ["one", "other"] (defScope s25) := ⟨rfl, rfl, rfl, by decide +kernel, rfl, by decide +kernel, by decide +kernel⟩
theorem b25 : ∀ (kV doc pm : Value) (an : Option Addr) (cdv ct : Value) (us : List Value), us.length = (["one", "other"] : List Str).length → bindArgs (PySem.W.fnOf d25.name d25.qual d25.params d25.body d25.scope .none kV doc pm an cdv ct) ⟨us, []⟩ = pure ((["one", "other"] : List Str).zip us) := fun _ _ _ _ _ _ us hl => match us, hl with | [_, _], _ => rfl
def d26 : He.DefD := ⟨("is_closed_through", none), "is_closed_through", "is_closed_through", defArgs s26, defBody s26, defScope s26, [], []⟩
theorem sc26 : FnScope N26 ["roads", "index", "steps"] (defScope s26) := ⟨rfl, rfl, rfl, by decide +kernel, rfl, by decide +kernel, by decide +kernel⟩
theorem b26 : ∀ (kV doc pm : Value) (an : Option Addr) (cdv ct : Value) (us : List Value), us.length = (["roads", "index", "steps"] : List Str).length → bindArgs (PySem.W.fnOf d26.name d26.qual d26.params d26.body d26.scope .none kV doc pm an cdv ct) ⟨us, []⟩ = pure ((["roads", "index", "steps"] : List Str).zip us) := fun _ _ _ _ _ _ us hl => match us, hl with | [_, _, _], _ => rfl
def d27 : He.DefD := ⟨("is_roads_or_through_in", none), "is_roads_or_through_in", "is_roads_or_through_in", defArgs s27, defBody s27, defScope s27, [], []⟩
theorem sc27 : FnScope N27 ["chart", "lot", "step", "value"] (defScope s27) := ⟨rfl, rfl, rfl, by decide +kernel, rfl, by decide +kernel, by decide +kernel⟩
theorem b27 : ∀ (kV doc pm : Value) (an : Option Addr) (cdv ct : Value) (us : List Value), us.length = (["chart", "lot", "step", "value"] : List Str).length → bindArgs (PySem.W.fnOf d27.name d27.qual d27.params d27.body d27.scope .none kV doc pm an cdv ct) ⟨us, []⟩ = pure ((["chart", "lot", "step", "value"] : List Str).zip us) := fun _ _ _ _ _ _ us hl => match us, hl with | [_, _, _, _], _ => rfl
def d28 : He.DefD := ⟨("left_goals", none), "left_goals", "left_goals", defArgs s28, defBody s28, defScope s28, [], []⟩
theorem sc28 : FnScope N28 ["chart", "kept", "at"] (defScope s28) := ⟨rfl, rfl, rfl, by decide +kernel, rfl, by decide +kernel, by decide +kernel⟩
theorem b28 : ∀ (kV doc pm : Value) (an : Option Addr) (cdv ct : Value) (us : List Value), us.length = (["chart", "kept", "at"] : List Str).length → bindArgs (PySem.W.fnOf d28.name d28.qual d28.params d28.body d28.scope .none kV doc pm an cdv ct) ⟨us, []⟩ = pure ((["chart", "kept", "at"] : List Str).zip us) := fun _ _ _ _ _ _ us hl => match us, hl with | [_, _, _], _ => rfl
def d29 : He.DefD := ⟨("ring_or_order_in", none), "ring_or_order_in", "ring_or_order_in", defArgs s29, defBody s29, defScope s29, [], []⟩
theorem sc29 : FnScope N29 ["chart", "lot"] (defScope s29) := ⟨rfl, rfl, rfl, by decide +kernel, rfl, by decide +kernel, by decide +kernel⟩
theorem b29 : ∀ (kV doc pm : Value) (an : Option Addr) (cdv ct : Value) (us : List Value), us.length = (["chart", "lot"] : List Str).length → bindArgs (PySem.W.fnOf d29.name d29.qual d29.params d29.body d29.scope .none kV doc pm an cdv ct) ⟨us, []⟩ = pure ((["chart", "lot"] : List Str).zip us) := fun _ _ _ _ _ _ us hl => match us, hl with | [_, _], _ => rfl
def d30 : He.DefD := ⟨("is_ring_in", none), "is_ring_in", "is_ring_in", defArgs s30, defBody s30, defScope s30, [], []⟩
theorem sc30 : FnScope N30 ["chart", "kept", "value"] (defScope s30) := ⟨rfl, rfl, rfl, by decide +kernel, rfl, by decide +kernel, by decide +kernel⟩
theorem b30 : ∀ (kV doc pm : Value) (an : Option Addr) (cdv ct : Value) (us : List Value), us.length = (["chart", "kept", "value"] : List Str).length → bindArgs (PySem.W.fnOf d30.name d30.qual d30.params d30.body d30.scope .none kV doc pm an cdv ct) ⟨us, []⟩ = pure ((["chart", "kept", "value"] : List Str).zip us) := fun _ _ _ _ _ _ us hl => match us, hl with | [_, _, _], _ => rfl
def d31 : He.DefD := ⟨("is_order_in", none), "is_order_in", "is_order_in", defArgs s31, defBody s31, defScope s31, [], []⟩
theorem sc31 : FnScope N31 ["chart", "kept", "value"] (defScope s31) := ⟨rfl, rfl, rfl, by decide +kernel, rfl, by decide +kernel, by decide +kernel⟩
theorem b31 : ∀ (kV doc pm : Value) (an : Option Addr) (cdv ct : Value) (us : List Value), us.length = (["chart", "kept", "value"] : List Str).length → bindArgs (PySem.W.fnOf d31.name d31.qual d31.params d31.body d31.scope .none kV doc pm an cdv ct) ⟨us, []⟩ = pure ((["chart", "kept", "value"] : List Str).zip us) := fun _ _ _ _ _ _ us hl => match us, hl with | [_, _, _], _ => rfl
def d32 : He.DefD := ⟨("is_ring_or_order_in", none), "is_ring_or_order_in", "is_ring_or_order_in", defArgs s32, defBody s32, defScope s32, [], []⟩
theorem sc32 : FnScope N32 ["chart", "lot", "value"] (defScope s32) := ⟨rfl, rfl, rfl, by decide +kernel, rfl, by decide +kernel, by decide +kernel⟩
theorem b32 : ∀ (kV doc pm : Value) (an : Option Addr) (cdv ct : Value) (us : List Value), us.length = (["chart", "lot", "value"] : List Str).length → bindArgs (PySem.W.fnOf d32.name d32.qual d32.params d32.body d32.scope .none kV doc pm an cdv ct) ⟨us, []⟩ = pure ((["chart", "lot", "value"] : List Str).zip us) := fun _ _ _ _ _ _ us hl => match us, hl with | [_, _, _], _ => rfl
def d33 : He.DefD := ⟨("is_lot_in", none), "is_lot_in", "is_lot_in", defArgs s33, defBody s33, defScope s33, [], []⟩
theorem sc33 : FnScope N33 ["chart", "value"] (defScope s33) := ⟨rfl, rfl, rfl, by decide +kernel, rfl, by decide +kernel, by decide +kernel⟩
theorem b33 : ∀ (kV doc pm : Value) (an : Option Addr) (cdv ct : Value) (us : List Value), us.length = (["chart", "value"] : List Str).length → bindArgs (PySem.W.fnOf d33.name d33.qual d33.params d33.body d33.scope .none kV doc pm an cdv ct) ⟨us, []⟩ = pure ((["chart", "value"] : List Str).zip us) := fun _ _ _ _ _ _ us hl => match us, hl with | [_, _], _ => rfl
def d34 : He.DefD := ⟨("require_lot", none), "require_lot", "require_lot", defArgs s34, defBody s34, defScope s34, [], []⟩
theorem sc34 : FnScope N34 ["chart", "value"] (defScope s34) := ⟨rfl, rfl, rfl, by decide +kernel, rfl, by decide +kernel, by decide +kernel⟩
theorem b34 : ∀ (kV doc pm : Value) (an : Option Addr) (cdv ct : Value) (us : List Value), us.length = (["chart", "value"] : List Str).length → bindArgs (PySem.W.fnOf d34.name d34.qual d34.params d34.body d34.scope .none kV doc pm an cdv ct) ⟨us, []⟩ = pure ((["chart", "value"] : List Str).zip us) := fun _ _ _ _ _ _ us hl => match us, hl with | [_, _], _ => rfl
def d35 : He.DefD := ⟨("require_lot_of", none), "require_lot_of", "require_lot_of", defArgs s35, defBody s35, defScope s35, [], []⟩
theorem sc35 : FnScope N35 ["chart", "lot"] (defScope s35) := ⟨rfl, rfl, rfl, by decide +kernel, rfl, by decide +kernel, by decide +kernel⟩
theorem b35 : ∀ (kV doc pm : Value) (an : Option Addr) (cdv ct : Value) (us : List Value), us.length = (["chart", "lot"] : List Str).length → bindArgs (PySem.W.fnOf d35.name d35.qual d35.params d35.body d35.scope .none kV doc pm an cdv ct) ⟨us, []⟩ = pure ((["chart", "lot"] : List Str).zip us) := fun _ _ _ _ _ _ us hl => match us, hl with | [_, _], _ => rfl
def d36 : He.DefD := ⟨("require_ends", none), "require_ends", "require_ends", defArgs s36, defBody s36, defScope s36, [], []⟩
theorem sc36 : FnScope N36 ["chart", "start", "goal"] (defScope s36) := ⟨rfl, rfl, rfl, by decide +kernel, rfl, by decide +kernel, by decide +kernel⟩
theorem b36 : ∀ (kV doc pm : Value) (an : Option Addr) (cdv ct : Value) (us : List Value), us.length = (["chart", "start", "goal"] : List Str).length → bindArgs (PySem.W.fnOf d36.name d36.qual d36.params d36.body d36.scope .none kV doc pm an cdv ct) ⟨us, []⟩ = pure ((["chart", "start", "goal"] : List Str).zip us) := fun _ _ _ _ _ _ us hl => match us, hl with | [_, _, _], _ => rfl
def d37 : He.DefD := ⟨("way", none), "way", "way", defArgs s37, defBody s37, defScope s37, [], []⟩
theorem sc37 : FnScope N37 ["chart", "start", "goal"] (defScope s37) := ⟨rfl, rfl, rfl, by decide +kernel, rfl, by decide +kernel, by decide +kernel⟩
theorem b37 : ∀ (kV doc pm : Value) (an : Option Addr) (cdv ct : Value) (us : List Value), us.length = (["chart", "start", "goal"] : List Str).length → bindArgs (PySem.W.fnOf d37.name d37.qual d37.params d37.body d37.scope .none kV doc pm an cdv ct) ⟨us, []⟩ = pure ((["chart", "start", "goal"] : List Str).zip us) := fun _ _ _ _ _ _ us hl => match us, hl with | [_, _, _], _ => rfl
def d38 : He.DefD := ⟨("is_way", none), "is_way", "is_way", defArgs s38, defBody s38, defScope s38, [], []⟩
theorem sc38 : FnScope N38 ["chart", "start", "goal", "value"] (defScope s38) := ⟨rfl, rfl, rfl, by decide +kernel, rfl, by decide +kernel, by decide +kernel⟩
theorem b38 : ∀ (kV doc pm : Value) (an : Option Addr) (cdv ct : Value) (us : List Value), us.length = (["chart", "start", "goal", "value"] : List Str).length → bindArgs (PySem.W.fnOf d38.name d38.qual d38.params d38.body d38.scope .none kV doc pm an cdv ct) ⟨us, []⟩ = pure ((["chart", "start", "goal", "value"] : List Str).zip us) := fun _ _ _ _ _ _ us hl => match us, hl with | [_, _, _, _], _ => rfl
def d39 : He.DefD := ⟨("firsts", none), "firsts", "firsts", defArgs s39, defBody s39, defScope s39, [], []⟩
theorem sc39 : FnScope N39 ["chart", "lot", "step"] (defScope s39) := ⟨rfl, rfl, rfl, by decide +kernel, rfl, by decide +kernel, by decide +kernel⟩
theorem b39 : ∀ (kV doc pm : Value) (an : Option Addr) (cdv ct : Value) (us : List Value), us.length = (["chart", "lot", "step"] : List Str).length → bindArgs (PySem.W.fnOf d39.name d39.qual d39.params d39.body d39.scope .none kV doc pm an cdv ct) ⟨us, []⟩ = pure ((["chart", "lot", "step"] : List Str).zip us) := fun _ _ _ _ _ _ us hl => match us, hl with | [_, _, _], _ => rfl
def d40 : He.DefD := ⟨("roads_or_through", none), "roads_or_through", "roads_or_through", defArgs s40, defBody s40, defScope s40, [], []⟩
theorem sc40 : FnScope N40 ["chart", "lot", "step"] (defScope s40) := ⟨rfl, rfl, rfl, by decide +kernel, rfl, by decide +kernel, by decide +kernel⟩
theorem b40 : ∀ (kV doc pm : Value) (an : Option Addr) (cdv ct : Value) (us : List Value), us.length = (["chart", "lot", "step"] : List Str).length → bindArgs (PySem.W.fnOf d40.name d40.qual d40.params d40.body d40.scope .none kV doc pm an cdv ct) ⟨us, []⟩ = pure ((["chart", "lot", "step"] : List Str).zip us) := fun _ _ _ _ _ _ us hl => match us, hl with | [_, _, _], _ => rfl
def d41 : He.DefD := ⟨("is_roads_or_through", none), "is_roads_or_through", "is_roads_or_through", defArgs s41, defBody s41, defScope s41, [], []⟩
theorem sc41 : FnScope N41 ["chart", "lot", "step", "value"] (defScope s41) := ⟨rfl, rfl, rfl, by decide +kernel, rfl, by decide +kernel, by decide +kernel⟩
theorem b41 : ∀ (kV doc pm : Value) (an : Option Addr) (cdv ct : Value) (us : List Value), us.length = (["chart", "lot", "step", "value"] : List Str).length → bindArgs (PySem.W.fnOf d41.name d41.qual d41.params d41.body d41.scope .none kV doc pm an cdv ct) ⟨us, []⟩ = pure ((["chart", "lot", "step", "value"] : List Str).zip us) := fun _ _ _ _ _ _ us hl => match us, hl with | [_, _, _, _], _ => rfl
def d42 : He.DefD := ⟨("ring_or_order", none), "ring_or_order", "ring_or_order", defArgs s42, defBody s42, defScope s42, [], []⟩
theorem sc42 : FnScope N42 ["chart", "lot"] (defScope s42) := ⟨rfl, rfl, rfl, by decide +kernel, rfl, by decide +kernel, by decide +kernel⟩
theorem b42 : ∀ (kV doc pm : Value) (an : Option Addr) (cdv ct : Value) (us : List Value), us.length = (["chart", "lot"] : List Str).length → bindArgs (PySem.W.fnOf d42.name d42.qual d42.params d42.body d42.scope .none kV doc pm an cdv ct) ⟨us, []⟩ = pure ((["chart", "lot"] : List Str).zip us) := fun _ _ _ _ _ _ us hl => match us, hl with | [_, _], _ => rfl
def d43 : He.DefD := ⟨("is_ring_or_order", none), "is_ring_or_order", "is_ring_or_order", defArgs s43, defBody s43, defScope s43, [], []⟩
theorem sc43 : FnScope N43 ["chart", "lot", "value"] (defScope s43) := ⟨rfl, rfl, rfl, by decide +kernel, rfl, by decide +kernel, by decide +kernel⟩
theorem b43 : ∀ (kV doc pm : Value) (an : Option Addr) (cdv ct : Value) (us : List Value), us.length = (["chart", "lot", "value"] : List Str).length → bindArgs (PySem.W.fnOf d43.name d43.qual d43.params d43.body d43.scope .none kV doc pm an cdv ct) ⟨us, []⟩ = pure ((["chart", "lot", "value"] : List Str).zip us) := fun _ _ _ _ _ _ us hl => match us, hl with | [_, _, _], _ => rfl
def d44 : He.DefD := ⟨("_law_spin", none), "_law_spin", "_law_spin", defArgs s44, defBody s44, defScope s44, [], []⟩
theorem sc44 : FnScope N44 ["_law_spins_here", "_law_total"] (defScope s44) := ⟨rfl, rfl, rfl, by decide +kernel, rfl, by decide +kernel, by decide +kernel⟩
theorem b44 : ∀ (kV doc pm : Value) (an : Option Addr) (cdv ct : Value) (us : List Value), us.length = (["_law_spins_here", "_law_total"] : List Str).length → bindArgs (PySem.W.fnOf d44.name d44.qual d44.params d44.body d44.scope .none kV doc pm an cdv ct) ⟨us, []⟩ = pure ((["_law_spins_here", "_law_total"] : List Str).zip us) := fun _ _ _ _ _ _ us hl => match us, hl with | [_, _], _ => rfl
def d45 : He.DefD := ⟨("_law_among", none), "_law_among", "_law_among", defArgs s45, defBody s45, defScope s45, [], []⟩
theorem sc45 : FnScope N45 ["_law_spins_here", "_law_items"] (defScope s45) := ⟨rfl, rfl, rfl, by decide +kernel, rfl, by decide +kernel, by decide +kernel⟩
theorem b45 : ∀ (kV doc pm : Value) (an : Option Addr) (cdv ct : Value) (us : List Value), us.length = (["_law_spins_here", "_law_items"] : List Str).length → bindArgs (PySem.W.fnOf d45.name d45.qual d45.params d45.body d45.scope .none kV doc pm an cdv ct) ⟨us, []⟩ = pure ((["_law_spins_here", "_law_items"] : List Str).zip us) := fun _ _ _ _ _ _ us hl => match us, hl with | [_, _], _ => rfl
def d46 : He.DefD := ⟨("_law_met", none), "_law_met", "_law_met", defArgs s46, defBody s46, defScope s46, [], []⟩
theorem sc46 : FnScope N46 ["_law_call"] (defScope s46) := ⟨rfl, rfl, rfl, by decide +kernel, rfl, by decide +kernel, by decide +kernel⟩
theorem b46 : ∀ (kV doc pm : Value) (an : Option Addr) (cdv ct : Value) (us : List Value), us.length = (["_law_call"] : List Str).length → bindArgs (PySem.W.fnOf d46.name d46.qual d46.params d46.body d46.scope .none kV doc pm an cdv ct) ⟨us, []⟩ = pure ((["_law_call"] : List Str).zip us) := fun _ _ _ _ _ _ us hl => match us, hl with | [_], _ => rfl
def d47 : He.DefD := ⟨("_law_right", none), "_law_right", "_law_right", defArgs s47, defBody s47, defScope s47, [], []⟩
theorem sc47 : FnScope N47 ["_law_spins_here"] (defScope s47) := ⟨rfl, rfl, rfl, by decide +kernel, rfl, by decide +kernel, by decide +kernel⟩
theorem b47 : ∀ (kV doc pm : Value) (an : Option Addr) (cdv ct : Value) (us : List Value), us.length = (["_law_spins_here"] : List Str).length → bindArgs (PySem.W.fnOf d47.name d47.qual d47.params d47.body d47.scope .none kV doc pm an cdv ct) ⟨us, []⟩ = pure ((["_law_spins_here"] : List Str).zip us) := fun _ _ _ _ _ _ us hl => match us, hl with | [_], _ => rfl
def d48 : He.DefD := ⟨("Roads", some ("__init__" : Str)), "__init__", "Roads.__init__", defArgs s48, defBody s48, defScope s48, [], []⟩
theorem sc48 : FnScope N48 ["self", "chart", "lot", "start"] (defScope s48) := ⟨rfl, rfl, rfl, by decide +kernel, rfl, by decide +kernel, by decide +kernel⟩
theorem b48 : ∀ (kV doc pm : Value) (an : Option Addr) (cdv ct : Value) (us : List Value), us.length = (["self", "chart", "lot", "start"] : List Str).length → bindArgs (PySem.W.fnOf d48.name d48.qual d48.params d48.body d48.scope .none kV doc pm an cdv ct) ⟨us, []⟩ = pure ((["self", "chart", "lot", "start"] : List Str).zip us) := fun _ _ _ _ _ _ us hl => match us, hl with | [_, _, _, _], _ => rfl
def d49 : He.DefD := ⟨("Roads", some ("goals" : Str)), "goals", "Roads.goals", defArgs s49, defBody s49, defScope s49, [], []⟩
theorem sc49 : FnScope N49 ["self", "at"] (defScope s49) := ⟨rfl, rfl, rfl, by decide +kernel, rfl, by decide +kernel, by decide +kernel⟩
theorem b49 : ∀ (kV doc pm : Value) (an : Option Addr) (cdv ct : Value) (us : List Value), us.length = (["self", "at"] : List Str).length → bindArgs (PySem.W.fnOf d49.name d49.qual d49.params d49.body d49.scope .none kV doc pm an cdv ct) ⟨us, []⟩ = pure ((["self", "at"] : List Str).zip us) := fun _ _ _ _ _ _ us hl => match us, hl with | [_, _], _ => rfl
def d50 : He.DefD := ⟨("Roads", some ("is_end" : Str)), "is_end", "Roads.is_end", defArgs s50, defBody s50, defScope s50, [], []⟩
theorem sc50 : FnScope N50 ["self", "at"] (defScope s50) := ⟨rfl, rfl, rfl, by decide +kernel, rfl, by decide +kernel, by decide +kernel⟩
theorem b50 : ∀ (kV doc pm : Value) (an : Option Addr) (cdv ct : Value) (us : List Value), us.length = (["self", "at"] : List Str).length → bindArgs (PySem.W.fnOf d50.name d50.qual d50.params d50.body d50.scope .none kV doc pm an cdv ct) ⟨us, []⟩ = pure ((["self", "at"] : List Str).zip us) := fun _ _ _ _ _ _ us hl => match us, hl with | [_, _], _ => rfl
def d51 : He.DefD := ⟨("Roads", some ("first_road" : Str)), "first_road", "Roads.first_road", defArgs s51, defBody s51, defScope s51, [], []⟩
theorem sc51 : FnScope N51 ["self"] (defScope s51) := ⟨rfl, rfl, rfl, by decide +kernel, rfl, by decide +kernel, by decide +kernel⟩
theorem b51 : ∀ (kV doc pm : Value) (an : Option Addr) (cdv ct : Value) (us : List Value), us.length = (["self"] : List Str).length → bindArgs (PySem.W.fnOf d51.name d51.qual d51.params d51.body d51.scope .none kV doc pm an cdv ct) ⟨us, []⟩ = pure ((["self"] : List Str).zip us) := fun _ _ _ _ _ _ us hl => match us, hl with | [_], _ => rfl
def d52 : He.DefD := ⟨("Roads", some ("moves" : Str)), "moves", "Roads.moves", defArgs s52, defBody s52, defScope s52, [], []⟩
theorem sc52 : FnScope N52 ["self", "place", "ahead"] (defScope s52) := ⟨rfl, rfl, rfl, by decide +kernel, rfl, by decide +kernel, by decide +kernel⟩
theorem b52 : ∀ (kV doc pm : Value) (an : Option Addr) (cdv ct : Value) (us : List Value), us.length = (["self", "place", "ahead"] : List Str).length → bindArgs (PySem.W.fnOf d52.name d52.qual d52.params d52.body d52.scope .none kV doc pm an cdv ct) ⟨us, []⟩ = pure ((["self", "place", "ahead"] : List Str).zip us) := fun _ _ _ _ _ _ us hl => match us, hl with | [_, _, _], _ => rfl
def d53 : He.DefD := ⟨("Roads", some ("second_places" : Str)), "second_places", "Roads.second_places", defArgs s53, defBody s53, defScope s53, [], []⟩
theorem sc53 : FnScope N53 ["self", "road"] (defScope s53) := ⟨rfl, rfl, rfl, by decide +kernel, rfl, by decide +kernel, by decide +kernel⟩
theorem b53 : ∀ (kV doc pm : Value) (an : Option Addr) (cdv ct : Value) (us : List Value), us.length = (["self", "road"] : List Str).length → bindArgs (PySem.W.fnOf d53.name d53.qual d53.params d53.body d53.scope .none kV doc pm an cdv ct) ⟨us, []⟩ = pure ((["self", "road"] : List Str).zip us) := fun _ _ _ _ _ _ us hl => match us, hl with | [_, _], _ => rfl
def d54 : He.DefD := ⟨("Roads", some ("joined" : Str)), "joined", "Roads.joined", defArgs s54, defBody s54, defScope s54, [], []⟩
theorem sc54 : FnScope N54 ["self", "road", "places"] (defScope s54) := ⟨rfl, rfl, rfl, by decide +kernel, rfl, by decide +kernel, by decide +kernel⟩
theorem b54 : ∀ (kV doc pm : Value) (an : Option Addr) (cdv ct : Value) (us : List Value), us.length = (["self", "road", "places"] : List Str).length → bindArgs (PySem.W.fnOf d54.name d54.qual d54.params d54.body d54.scope .none kV doc pm an cdv ct) ⟨us, []⟩ = pure ((["self", "road", "places"] : List Str).zip us) := fun _ _ _ _ _ _ us hl => match us, hl with | [_, _, _], _ => rfl
def d55 : He.DefD := ⟨("Roads", some ("reached_without" : Str)), "reached_without", "Roads.reached_without", defArgs s55, defBody s55, defScope s55, [], []⟩
theorem sc55 : FnScope N55 ["self", "index"] (defScope s55) := ⟨rfl, rfl, rfl, by decide +kernel, rfl, by decide +kernel, by decide +kernel⟩
theorem b55 : ∀ (kV doc pm : Value) (an : Option Addr) (cdv ct : Value) (us : List Value), us.length = (["self", "index"] : List Str).length → bindArgs (PySem.W.fnOf d55.name d55.qual d55.params d55.body d55.scope .none kV doc pm an cdv ct) ⟨us, []⟩ = pure ((["self", "index"] : List Str).zip us) := fun _ _ _ _ _ _ us hl => match us, hl with | [_, _], _ => rfl
def d56 : He.DefD := ⟨("_law_spins", none), "_law_spins", "_law_spins", defArgs s56, defBody s56, defScope s56, [], []⟩
theorem sc56 : FnScope N56 ["_law_script", "_law_spot"] (defScope s56) := ⟨rfl, rfl, rfl, by decide +kernel, rfl, by decide +kernel, by decide +kernel⟩
theorem b56 : ∀ (kV doc pm : Value) (an : Option Addr) (cdv ct : Value) (us : List Value), us.length = (["_law_script", "_law_spot"] : List Str).length → bindArgs (PySem.W.fnOf d56.name d56.qual d56.params d56.body d56.scope .none kV doc pm an cdv ct) ⟨us, []⟩ = pure ((["_law_script", "_law_spot"] : List Str).zip us) := fun _ _ _ _ _ _ us hl => match us, hl with | [_, _], _ => rfl
def d57 : He.DefD := ⟨("law", none), "law", "law", defArgs s57, defBody s57, defScope s57, [], []⟩
theorem sc57 : FnScope N57 ["_law_script"] (defScope s57) := ⟨rfl, rfl, rfl, by decide +kernel, rfl, by decide +kernel, by decide +kernel⟩
theorem b57 : ∀ (kV doc pm : Value) (an : Option Addr) (cdv ct : Value) (us : List Value), us.length = (["_law_script"] : List Str).length → bindArgs (PySem.W.fnOf d57.name d57.qual d57.params d57.body d57.scope .none kV doc pm an cdv ct) ⟨us, []⟩ = pure ((["_law_script"] : List Str).zip us) := fun _ _ _ _ _ _ us hl => match us, hl with | [_], _ => rfl
def fnL : List He.DefD := [d0, d1, d2, d3, d4, d5, d6, d7, d8, d9, d10, d11, d12, d13, d14, d15, d16, d17, d18, d19, d20, d21, d22, d23, d24, d25, d26, d27, d28, d29, d30, d31, d32, d33, d34, d35, d36, d37, d38, d39, d40, d41, d42, d43, d44, d45, d46, d47, d48, d49, d50, d51, d52, d53, d54, d55, d56, d57]
def tf : List He.Defn := [("_law_right", none)]
abbrev Tt (K : Frag') : List (Addr × Str) := TtOf tf K
abbrev gs (P : Program) (w : World) (K : Frag') : Gs := gsOf nm Tt P w K (LSof gt)
def sIInvalidNumber : Stmt := iniS (top 4)
theorem txIInvalidNumber : ∃ p1 p2 a1 a2 a3 a4 a5 a6 q1 q2 q3 q4 : Pos, defArgs sIInvalidNumber = SupX.iA p1 p2 ∧ defBody sIInvalidNumber = SupX.iB a1 a2 a3 a4 a5 a6 q1 q2 q3 q4 ∧ defScope sIInvalidNumber = SupX.iS ∧ (a3.endLine == a5.line) = true := ⟨_, _, _, _, _, _, _, _, _, _, _, _, rfl, rfl, rfl, rfl⟩
def sv : List (Str × SupD) := [("InvalidNumber.__init__", ("InvalidNumber", sIInvalidNumber))]
def clB (P : Program) (K : Frag') : Bool := supFull P K "InvalidNumber" "InvalidNumber.__init__" && (fldB K "InvalidNumber" "given")
def exC (P : Program) (K : Frag') : Bool := exB nm gt prg P K && (exB nmS gtS prS P K && (ndT (Tt K) && ((He.Fa.glo "_law_spins").ok K && ((He.Fa.glo "law").ok K && (clB P K && (true))))))
abbrev PP : Program := PySem.Challenge.rw_enoughsteps_k17_errors_of_ways.prog
end K17
end Rf
set_option maxHeartbeats 4000000
namespace Rf
namespace K17
open PySem PySem.Spec PyProof.Rows L2 LamX RfE
def nn0 : List PySem.Str := ["StepError", "InvalidChart", "InvalidLot", "InvalidNumber", "MOST_LETTERS", "LETTERS", "is_integer", "is_within", "is_name", "require_within", "MOST_STEPS", "MOST_NAMES", "MOST_USES", "MOST_WAYS", "LEAST_WAYS", "SET_SIZE", "ASK_SIZE", "SHOW_SIZE", "SET", "ASK", "SHOW", "CHART", "STEP", "NAMES", "UNREACHED", "ENDLESS", "uses_of", "follows_in", "are_uses", "are_ways"]
def nn1 : List PySem.Str := ["is_step", "behind_in", "ahead_in", "leading_in", "names_in", "form_fault", "fault_in", "is_chart_in", "require_chart", "require_step", "ROADS", "THROUGH", "RING", "ORDER", "PAIR", "TRIPLE", "INTO", "OUT", "led_back", "way_in", "is_way_in", "kept_in", "firsts_in", "Roads", "roads_or_through_in", "is_road", "are_apart", "is_closed_through", "is_roads_or_through_in", "left_goals"]
def nn2 : List PySem.Str := ["ring_or_order_in", "is_ring_in", "is_order_in", "is_ring_or_order_in", "is_lot_in", "require_lot", "require_lot_of", "require_ends", "way", "is_way", "firsts", "roads_or_through", "is_roads_or_through", "ring_or_order", "is_ring_or_order", "_law_spins", "_law_spin", "_law_among", "_law_met", "_law_right"]
def loose : List PySem.Str := nn0 ++ nn1 ++ nn2
abbrev RR : PySem.W.OpenRow := PySem.W.OpenLaw.row PySem.Challenge.rw_enoughsteps_k17_errors_of_ways
abbrev hk : PySem.W.Hook := hookR 6 fnL tf sv (exC PP)
def ob (s : PySem.W.SharedT) : AlR := obsR 6 fnL tf sv (exC PP) (HandSHeadRun.getT s)
theorem ob_eq (s : PySem.W.SharedT) : ob s = hk.obs s.abs := obsR_eq (HandSHeadRun.getT_eq s)
theorem run1 (w : World) (os : OsState) : ((HandSHeadRun.endF (HandSHeadRun.stepQ (HandSHeadRun.denQ HandSHeadRun.tabQ) RR.prog w) 6000 RR.prog w os).map fun s => (HandSHeadRun.looksF RR.prog (PySem.W.boot_heap w.params) s.abs, HandSHeadRun.seenQ (PySem.W.view RR.prog [85]) loose (PySem.importedModules RR.prog.main.body) (fun s => PySem.W.xlAt (PySem.W.view RR.prog [85]) [] s && PySem.W.recOk RR.toRowW.records s) s.abs)) = some (true, PySem.W.openGood (PySem.W.view RR.prog [85]) loose) := by
  kernel_rfl
theorem run2 (w : World) (os : OsState) : ((HandSHeadRun.endF (HandSHeadRun.stepQ (HandSHeadRun.denQ HandSHeadRun.tabQ) RR.prog w) 6000 RR.prog w os).map fun s => ((ob s).1, (ob s).2.2)) = some ((hk.val w).1, (hk.val w).2.2) := by
  kernel_rfl
theorem run3 (w : World) (os : OsState) : ((HandSHeadRun.endF (HandSHeadRun.stepQ (HandSHeadRun.denQ HandSHeadRun.tabQ) RR.prog w) 6000 RR.prog w os).map fun s => (ob s).2.1) = some true := by
  kernel_rfl
theorem run (w : World) : HandSHeadRun.RunEq RR (PySem.W.view RR.prog [85]) hk ob 6000 loose w := fun os => run_join (run1 w os) (run_three (run2 w os) (run3 w os))
end K17
end Rf
set_option maxHeartbeats 4000000
namespace Rf
namespace K17
open PySem PySem.Spec PyProof.Rows L2 LamX RfE
variable {P : Program} {w : World} {K : Frag'} {mg : Str → Option Value} {base : Heap}
theorem df0 {pr : Pr} (c : He.SaysD [] fnL K) (hd : pr.defs[0]? = some (.code 1 1 i0) ∨ ∃ es, pr.defs[0]? = some (.memo 1 1 i0 es) ∧ MemOk pr 1 1 i0 es) : DfOk gt pr (gs P w K) 0 P w K mg base :=
  df_of (d := d0) (C := c0) (Nl := N0) (ps := ["value"]) (n := 80) c rfl rfl rfl rfl b0 sc0 rfl rfl hd h0 rfl rfl rfl (fun _ => rfl) (fun h => absurd h (by decide))
theorem df1 {pr : Pr} (c : He.SaysD [] fnL K) (hd : pr.defs[1]? = some (.code 3 3 i1) ∨ ∃ es, pr.defs[1]? = some (.memo 3 3 i1 es) ∧ MemOk pr 3 3 i1 es) : DfOk gt pr (gs P w K) 1 P w K mg base :=
  df_of (d := d1) (C := c1) (Nl := N1) (ps := ["value", "least", "most"]) (n := 80) c rfl rfl rfl rfl b1 sc1 rfl rfl hd h1 rfl rfl rfl (fun _ => rfl) (fun h => absurd h (by decide))
theorem df2 {pr : Pr} (c : He.SaysD [] fnL K) (hd : pr.defs[2]? = some (.code 1 2 i2) ∨ ∃ es, pr.defs[2]? = some (.memo 1 2 i2 es) ∧ MemOk pr 1 2 i2 es) : DfOk gt pr (gs P w K) 2 P w K mg base :=
  df_of (d := d2) (C := c2) (Nl := N2) (ps := ["value"]) (n := 80) c rfl rfl rfl rfl b2 sc2 rfl rfl hd h2 rfl rfl rfl (fun _ => rfl) (fun h => absurd h (by decide))
theorem df3 {pr : Pr} (c : He.SaysD [] fnL K) (hd : pr.defs[3]? = some (.code 3 3 i3) ∨ ∃ es, pr.defs[3]? = some (.memo 3 3 i3 es) ∧ MemOk pr 3 3 i3 es) : DfOk gt pr (gs P w K) 3 P w K mg base :=
  df_of (d := d3) (C := c3) (Nl := N3) (ps := ["value", "least", "most"]) (n := 80) c rfl rfl rfl rfl b3 sc3 rfl rfl hd h3 rfl rfl rfl (fun _ => rfl) (fun h => absurd h (by decide))
theorem df4 {pr : Pr} (c : He.SaysD [] fnL K) (hd : pr.defs[4]? = some (.code 1 1 i4) ∨ ∃ es, pr.defs[4]? = some (.memo 1 1 i4 es) ∧ MemOk pr 1 1 i4 es) : DfOk gt pr (gs P w K) 4 P w K mg base :=
  df_of (d := d4) (C := c4) (Nl := N4) (ps := ["step"]) (n := 80) c rfl rfl rfl rfl b4 sc4 rfl rfl hd h4 rfl rfl rfl (fun _ => rfl) (fun h => absurd h (by decide))
theorem df5 {pr : Pr} (c : He.SaysD [] fnL K) (hd : pr.defs[5]? = some (.code 2 3 i5) ∨ ∃ es, pr.defs[5]? = some (.memo 2 3 i5 es) ∧ MemOk pr 2 3 i5 es) : DfOk gt pr (gs P w K) 5 P w K mg base :=
  df_of (d := d5) (C := c5) (Nl := N5) (ps := ["chart", "at"]) (n := 80) c rfl rfl rfl rfl b5 sc5 rfl rfl hd h5 rfl rfl rfl (fun _ => rfl) (fun h => absurd h (by decide))
theorem df6 {pr : Pr} (c : He.SaysD [] fnL K) (hd : pr.defs[6]? = some (.code 1 2 i6) ∨ ∃ es, pr.defs[6]? = some (.memo 1 2 i6 es) ∧ MemOk pr 1 2 i6 es) : DfOk gt pr (gs P w K) 6 P w K mg base :=
  df_of (d := d6) (C := c6) (Nl := N6) (ps := ["value"]) (n := 80) c rfl rfl rfl rfl b6 sc6 rfl rfl hd h6 rfl rfl rfl (fun _ => rfl) (fun h => absurd h (by decide))
theorem df7 {pr : Pr} (c : He.SaysD [] fnL K) (hd : pr.defs[7]? = some (.code 2 3 i7) ∨ ∃ es, pr.defs[7]? = some (.memo 2 3 i7 es) ∧ MemOk pr 2 3 i7 es) : DfOk gt pr (gs P w K) 7 P w K mg base :=
  df_of (d := d7) (C := c7) (Nl := N7) (ps := ["value", "size"]) (n := 80) c rfl rfl rfl rfl b7 sc7 rfl rfl hd h7 rfl rfl rfl (fun _ => rfl) (fun h => absurd h (by decide))
theorem df8 {pr : Pr} (c : He.SaysD [] fnL K) (hd : pr.defs[8]? = some (.code 2 2 i8) ∨ ∃ es, pr.defs[8]? = some (.memo 2 2 i8 es) ∧ MemOk pr 2 2 i8 es) : DfOk gt pr (gs P w K) 8 P w K mg base :=
  df_of (d := d8) (C := c8) (Nl := N8) (ps := ["value", "size"]) (n := 80) c rfl rfl rfl rfl b8 sc8 rfl rfl hd h8 rfl rfl rfl (fun _ => rfl) (fun h => absurd h (by decide))
theorem df9 {pr : Pr} (c : He.SaysD [] fnL K) (hd : pr.defs[9]? = some (.code 2 5 i9) ∨ ∃ es, pr.defs[9]? = some (.memo 2 5 i9 es) ∧ MemOk pr 2 5 i9 es) : DfOk gt pr (gs P w K) 9 P w K mg base :=
  df_of (d := d9) (C := c9) (Nl := N9) (ps := ["chart", "starts"]) (n := 80) c rfl rfl rfl rfl b9 sc9 rfl rfl hd h9 rfl rfl rfl (fun _ => rfl) (fun h => absurd h (by decide))
theorem df10 {pr : Pr} (c : He.SaysD [] fnL K) (hd : pr.defs[10]? = some (.code 1 4 i10) ∨ ∃ es, pr.defs[10]? = some (.memo 1 4 i10 es) ∧ MemOk pr 1 4 i10 es) : DfOk gt pr (gs P w K) 10 P w K mg base :=
  df_of (d := d10) (C := c10) (Nl := N10) (ps := ["chart"]) (n := 80) c rfl rfl rfl rfl b10 sc10 rfl rfl hd h10 rfl rfl rfl (fun _ => rfl) (fun h => absurd h (by decide))
theorem df11 {pr : Pr} (c : He.SaysD [] fnL K) (hd : pr.defs[11]? = some (.code 2 6 i11) ∨ ∃ es, pr.defs[11]? = some (.memo 2 6 i11 es) ∧ MemOk pr 2 6 i11 es) : DfOk gt pr (gs P w K) 11 P w K mg base :=
  df_of (d := d11) (C := c11) (Nl := N11) (ps := ["chart", "index"]) (n := 80) c rfl rfl rfl rfl b11 sc11 rfl rfl hd h11 rfl rfl rfl (fun _ => rfl) (fun h => absurd h (by decide))
theorem df12 {pr : Pr} (c : He.SaysD [] fnL K) (hd : pr.defs[12]? = some (.code 1 4 i12) ∨ ∃ es, pr.defs[12]? = some (.memo 1 4 i12 es) ∧ MemOk pr 1 4 i12 es) : DfOk gt pr (gs P w K) 12 P w K mg base :=
  df_of (d := d12) (C := c12) (Nl := N12) (ps := ["chart"]) (n := 80) c rfl rfl rfl rfl b12 sc12 rfl rfl hd h12 rfl rfl rfl (fun _ => rfl) (fun h => absurd h (by decide))
theorem df13 {pr : Pr} (c : He.SaysD [] fnL K) (hd : pr.defs[13]? = some (.code 1 3 i13) ∨ ∃ es, pr.defs[13]? = some (.memo 1 3 i13 es) ∧ MemOk pr 1 3 i13 es) : DfOk gt pr (gs P w K) 13 P w K mg base :=
  df_of (d := d13) (C := c13) (Nl := N13) (ps := ["value"]) (n := 80) c rfl rfl rfl rfl b13 sc13 rfl rfl hd h13 rfl rfl rfl (fun _ => rfl) (fun h => absurd h (by decide))
theorem df14 {pr : Pr} (c : He.SaysD [] fnL K) (hd : pr.defs[14]? = some (.code 1 5 i14) ∨ ∃ es, pr.defs[14]? = some (.memo 1 5 i14 es) ∧ MemOk pr 1 5 i14 es) : DfOk gt pr (gs P w K) 14 P w K mg base :=
  df_of (d := d14) (C := c14) (Nl := N14) (ps := ["value"]) (n := 80) c rfl rfl rfl rfl b14 sc14 rfl rfl hd h14 rfl rfl rfl (fun _ => rfl) (fun h => absurd h (by decide))
theorem df15 {pr : Pr} (c : He.SaysD [] fnL K) (hd : pr.defs[15]? = some (.code 1 1 i15) ∨ ∃ es, pr.defs[15]? = some (.memo 1 1 i15 es) ∧ MemOk pr 1 1 i15 es) : DfOk gt pr (gs P w K) 15 P w K mg base :=
  df_of (d := d15) (C := c15) (Nl := N15) (ps := ["value"]) (n := 80) c rfl rfl rfl rfl b15 sc15 rfl rfl hd h15 rfl rfl rfl (fun _ => rfl) (fun h => absurd h (by decide))
theorem df16 {pr : Pr} (c : He.SaysD [] fnL K) (hd : pr.defs[16]? = some (.code 1 1 i16) ∨ ∃ es, pr.defs[16]? = some (.memo 1 1 i16 es) ∧ MemOk pr 1 1 i16 es) : DfOk gt pr (gs P w K) 16 P w K mg base :=
  df_of (d := d16) (C := c16) (Nl := N16) (ps := ["value"]) (n := 80) c rfl rfl rfl rfl b16 sc16 rfl rfl hd h16 rfl rfl rfl (fun _ => rfl) (fun h => absurd h (by decide))
theorem df17 {pr : Pr} (c : He.SaysD [] fnL K) (hd : pr.defs[17]? = some (.code 2 2 i17) ∨ ∃ es, pr.defs[17]? = some (.memo 2 2 i17 es) ∧ MemOk pr 2 2 i17 es) : DfOk gt pr (gs P w K) 17 P w K mg base :=
  df_of (d := d17) (C := c17) (Nl := N17) (ps := ["chart", "value"]) (n := 80) c rfl rfl rfl rfl b17 sc17 rfl rfl hd h17 rfl rfl rfl (fun _ => rfl) (fun h => absurd h (by decide))
theorem df18 {pr : Pr} (c : He.SaysD [] fnL K) (hd : pr.defs[18]? = some (.code 2 3 i18) ∨ ∃ es, pr.defs[18]? = some (.memo 2 3 i18 es) ∧ MemOk pr 2 3 i18 es) : DfOk gt pr (gs P w K) 18 P w K mg base :=
  df_of (d := d18) (C := c18) (Nl := N18) (ps := ["parents", "at"]) (n := 80) c rfl rfl rfl rfl b18 sc18 rfl rfl hd h18 rfl rfl rfl (fun _ => rfl) (fun h => absurd h (by decide))
theorem df19 {pr : Pr} (c : He.SaysD [] fnL K) (hd : pr.defs[19]? = some (.code 3 8 i19) ∨ ∃ es, pr.defs[19]? = some (.memo 3 8 i19 es) ∧ MemOk pr 3 8 i19 es) : DfOk gt pr (gs P w K) 19 P w K mg base :=
  df_of (d := d19) (C := c19) (Nl := N19) (ps := ["chart", "start", "goal"]) (n := 80) c rfl rfl rfl rfl b19 sc19 rfl rfl hd h19 rfl rfl rfl (fun _ => rfl) (fun h => absurd h (by decide))
theorem df20 {pr : Pr} (c : He.SaysD [] fnL K) (hd : pr.defs[20]? = some (.code 2 6 i20) ∨ ∃ es, pr.defs[20]? = some (.memo 2 6 i20 es) ∧ MemOk pr 2 6 i20 es) : DfOk gt pr (gs P w K) 20 P w K mg base :=
  df_of (d := d20) (C := c20) (Nl := N20) (ps := ["chart", "value"]) (n := 80) c rfl rfl rfl rfl b20 sc20 rfl rfl hd h20 rfl rfl rfl (fun _ => rfl) (fun h => absurd h (by decide))
theorem df21 {pr : Pr} (c : He.SaysD [] fnL K) (hd : pr.defs[21]? = some (.code 2 4 i21) ∨ ∃ es, pr.defs[21]? = some (.memo 2 4 i21 es) ∧ MemOk pr 2 4 i21 es) : DfOk gt pr (gs P w K) 21 P w K mg base :=
  df_of (d := d21) (C := c21) (Nl := N21) (ps := ["chart", "lot"]) (n := 80) c rfl rfl rfl rfl b21 sc21 rfl rfl hd h21 rfl rfl rfl (fun _ => rfl) (fun h => absurd h (by decide))
theorem df22 {pr : Pr} (c : He.SaysD [] fnL K) (hd : pr.defs[22]? = some (.code 3 10 i22) ∨ ∃ es, pr.defs[22]? = some (.memo 3 10 i22 es) ∧ MemOk pr 3 10 i22 es) : DfOk gt pr (gs P w K) 22 P w K mg base :=
  df_of (d := d22) (C := c22) (Nl := N22) (ps := ["chart", "lot", "step"]) (n := 80) c rfl rfl rfl rfl b22 sc22 rfl rfl hd h22 rfl rfl rfl (fun _ => rfl) (fun h => absurd h (by decide))
theorem df23 {pr : Pr} (c : He.SaysD [] fnL K) (hd : pr.defs[23]? = some (.code 3 9 i23) ∨ ∃ es, pr.defs[23]? = some (.memo 3 9 i23 es) ∧ MemOk pr 3 9 i23 es) : DfOk gt pr (gs P w K) 23 P w K mg base :=
  df_of (d := d23) (C := c23) (Nl := N23) (ps := ["chart", "lot", "step"]) (n := 80) c rfl rfl rfl rfl b23 sc23 rfl rfl hd h23 rfl rfl rfl (fun _ => rfl) (fun h => absurd h (by decide))
theorem df24 {pr : Pr} (c : He.SaysD [] fnL K) (hd : pr.defs[24]? = some (.code 2 4 i24) ∨ ∃ es, pr.defs[24]? = some (.memo 2 4 i24 es) ∧ MemOk pr 2 4 i24 es) : DfOk gt pr (gs P w K) 24 P w K mg base :=
  df_of (d := d24) (C := c24) (Nl := N24) (ps := ["roads", "value"]) (n := 80) c rfl rfl rfl rfl b24 sc24 rfl rfl hd h24 rfl rfl rfl (fun _ => rfl) (fun h => absurd h (by decide))
theorem df25 {pr : Pr} (c : He.SaysD [] fnL K) (hd : pr.defs[25]? = some (.code 2 3 i25) ∨ ∃ es, pr.defs[25]? = some (.memo 2 3 i25 es) ∧ MemOk pr 2 3 i25 es) : DfOk gt pr (gs P w K) 25 P w K mg base :=
  df_of (d := d25) (C := c25) (Nl := N25) (ps := ["one", "other"]) (n := 80) c rfl rfl rfl rfl b25 sc25 rfl rfl hd h25 rfl rfl rfl (fun _ => rfl) (fun h => absurd h (by decide))
theorem df26 {pr : Pr} (c : He.SaysD [] fnL K) (hd : pr.defs[26]? = some (.code 3 8 i26) ∨ ∃ es, pr.defs[26]? = some (.memo 3 8 i26 es) ∧ MemOk pr 3 8 i26 es) : DfOk gt pr (gs P w K) 26 P w K mg base :=
  df_of (d := d26) (C := c26) (Nl := N26) (ps := ["roads", "index", "steps"]) (n := 80) c rfl rfl rfl rfl b26 sc26 rfl rfl hd h26 rfl rfl rfl (fun _ => rfl) (fun h => absurd h (by decide))
theorem df27 {pr : Pr} (c : He.SaysD [] fnL K) (hd : pr.defs[27]? = some (.code 4 6 i27) ∨ ∃ es, pr.defs[27]? = some (.memo 4 6 i27 es) ∧ MemOk pr 4 6 i27 es) : DfOk gt pr (gs P w K) 27 P w K mg base :=
  df_of (d := d27) (C := c27) (Nl := N27) (ps := ["chart", "lot", "step", "value"]) (n := 80) c rfl rfl rfl rfl b27 sc27 rfl rfl hd h27 rfl rfl rfl (fun _ => rfl) (fun h => absurd h (by decide))
theorem df28 {pr : Pr} (c : He.SaysD [] fnL K) (hd : pr.defs[28]? = some (.code 3 4 i28) ∨ ∃ es, pr.defs[28]? = some (.memo 3 4 i28 es) ∧ MemOk pr 3 4 i28 es) : DfOk gt pr (gs P w K) 28 P w K mg base :=
  df_of (d := d28) (C := c28) (Nl := N28) (ps := ["chart", "kept", "at"]) (n := 80) c rfl rfl rfl rfl b28 sc28 rfl rfl hd h28 rfl rfl rfl (fun _ => rfl) (fun h => absurd h (by decide))
theorem df29 {pr : Pr} (c : He.SaysD [] fnL K) (hd : pr.defs[29]? = some (.code 2 10 i29) ∨ ∃ es, pr.defs[29]? = some (.memo 2 10 i29 es) ∧ MemOk pr 2 10 i29 es) : DfOk gt pr (gs P w K) 29 P w K mg base :=
  df_of (d := d29) (C := c29) (Nl := N29) (ps := ["chart", "lot"]) (n := 80) c rfl rfl rfl rfl b29 sc29 rfl rfl hd h29 rfl rfl rfl (fun _ => rfl) (fun h => absurd h (by decide))
theorem df30 {pr : Pr} (c : He.SaysD [] fnL K) (hd : pr.defs[30]? = some (.code 3 6 i30) ∨ ∃ es, pr.defs[30]? = some (.memo 3 6 i30 es) ∧ MemOk pr 3 6 i30 es) : DfOk gt pr (gs P w K) 30 P w K mg base :=
  df_of (d := d30) (C := c30) (Nl := N30) (ps := ["chart", "kept", "value"]) (n := 80) c rfl rfl rfl rfl b30 sc30 rfl rfl hd h30 rfl rfl rfl (fun _ => rfl) (fun h => absurd h (by decide))
theorem df31 {pr : Pr} (c : He.SaysD [] fnL K) (hd : pr.defs[31]? = some (.code 3 7 i31) ∨ ∃ es, pr.defs[31]? = some (.memo 3 7 i31 es) ∧ MemOk pr 3 7 i31 es) : DfOk gt pr (gs P w K) 31 P w K mg base :=
  df_of (d := d31) (C := c31) (Nl := N31) (ps := ["chart", "kept", "value"]) (n := 80) c rfl rfl rfl rfl b31 sc31 rfl rfl hd h31 rfl rfl rfl (fun _ => rfl) (fun h => absurd h (by decide))
theorem df32 {pr : Pr} (c : He.SaysD [] fnL K) (hd : pr.defs[32]? = some (.code 3 6 i32) ∨ ∃ es, pr.defs[32]? = some (.memo 3 6 i32 es) ∧ MemOk pr 3 6 i32 es) : DfOk gt pr (gs P w K) 32 P w K mg base :=
  df_of (d := d32) (C := c32) (Nl := N32) (ps := ["chart", "lot", "value"]) (n := 80) c rfl rfl rfl rfl b32 sc32 rfl rfl hd h32 rfl rfl rfl (fun _ => rfl) (fun h => absurd h (by decide))
theorem df33 {pr : Pr} (c : He.SaysD [] fnL K) (hd : pr.defs[33]? = some (.code 2 5 i33) ∨ ∃ es, pr.defs[33]? = some (.memo 2 5 i33 es) ∧ MemOk pr 2 5 i33 es) : DfOk gt pr (gs P w K) 33 P w K mg base :=
  df_of (d := d33) (C := c33) (Nl := N33) (ps := ["chart", "value"]) (n := 80) c rfl rfl rfl rfl b33 sc33 rfl rfl hd h33 rfl rfl rfl (fun _ => rfl) (fun h => absurd h (by decide))
theorem df34 {pr : Pr} (c : He.SaysD [] fnL K) (hd : pr.defs[34]? = some (.code 2 2 i34) ∨ ∃ es, pr.defs[34]? = some (.memo 2 2 i34 es) ∧ MemOk pr 2 2 i34 es) : DfOk gt pr (gs P w K) 34 P w K mg base :=
  df_of (d := d34) (C := c34) (Nl := N34) (ps := ["chart", "value"]) (n := 80) c rfl rfl rfl rfl b34 sc34 rfl rfl hd h34 rfl rfl rfl (fun _ => rfl) (fun h => absurd h (by decide))
theorem df35 {pr : Pr} (c : He.SaysD [] fnL K) (hd : pr.defs[35]? = some (.code 2 2 i35) ∨ ∃ es, pr.defs[35]? = some (.memo 2 2 i35 es) ∧ MemOk pr 2 2 i35 es) : DfOk gt pr (gs P w K) 35 P w K mg base :=
  df_of (d := d35) (C := c35) (Nl := N35) (ps := ["chart", "lot"]) (n := 80) c rfl rfl rfl rfl b35 sc35 rfl rfl hd h35 rfl rfl rfl (fun _ => rfl) (fun h => absurd h (by decide))
theorem df36 {pr : Pr} (c : He.SaysD [] fnL K) (hd : pr.defs[36]? = some (.code 3 3 i36) ∨ ∃ es, pr.defs[36]? = some (.memo 3 3 i36 es) ∧ MemOk pr 3 3 i36 es) : DfOk gt pr (gs P w K) 36 P w K mg base :=
  df_of (d := d36) (C := c36) (Nl := N36) (ps := ["chart", "start", "goal"]) (n := 80) c rfl rfl rfl rfl b36 sc36 rfl rfl hd h36 rfl rfl rfl (fun _ => rfl) (fun h => absurd h (by decide))
theorem df37 {pr : Pr} (c : He.SaysD [] fnL K) (hd : pr.defs[37]? = some (.code 3 3 i37) ∨ ∃ es, pr.defs[37]? = some (.memo 3 3 i37 es) ∧ MemOk pr 3 3 i37 es) : DfOk gt pr (gs P w K) 37 P w K mg base :=
  df_of (d := d37) (C := c37) (Nl := N37) (ps := ["chart", "start", "goal"]) (n := 80) c rfl rfl rfl rfl b37 sc37 rfl rfl hd h37 rfl rfl rfl (fun _ => rfl) (fun h => absurd h (by decide))
theorem df38 {pr : Pr} (c : He.SaysD [] fnL K) (hd : pr.defs[38]? = some (.code 4 4 i38) ∨ ∃ es, pr.defs[38]? = some (.memo 4 4 i38 es) ∧ MemOk pr 4 4 i38 es) : DfOk gt pr (gs P w K) 38 P w K mg base :=
  df_of (d := d38) (C := c38) (Nl := N38) (ps := ["chart", "start", "goal", "value"]) (n := 80) c rfl rfl rfl rfl b38 sc38 rfl rfl hd h38 rfl rfl rfl (fun _ => rfl) (fun h => absurd h (by decide))
theorem df39 {pr : Pr} (c : He.SaysD [] fnL K) (hd : pr.defs[39]? = some (.code 3 3 i39) ∨ ∃ es, pr.defs[39]? = some (.memo 3 3 i39 es) ∧ MemOk pr 3 3 i39 es) : DfOk gt pr (gs P w K) 39 P w K mg base :=
  df_of (d := d39) (C := c39) (Nl := N39) (ps := ["chart", "lot", "step"]) (n := 80) c rfl rfl rfl rfl b39 sc39 rfl rfl hd h39 rfl rfl rfl (fun _ => rfl) (fun h => absurd h (by decide))
theorem df40 {pr : Pr} (c : He.SaysD [] fnL K) (hd : pr.defs[40]? = some (.code 3 3 i40) ∨ ∃ es, pr.defs[40]? = some (.memo 3 3 i40 es) ∧ MemOk pr 3 3 i40 es) : DfOk gt pr (gs P w K) 40 P w K mg base :=
  df_of (d := d40) (C := c40) (Nl := N40) (ps := ["chart", "lot", "step"]) (n := 80) c rfl rfl rfl rfl b40 sc40 rfl rfl hd h40 rfl rfl rfl (fun _ => rfl) (fun h => absurd h (by decide))
theorem df41 {pr : Pr} (c : He.SaysD [] fnL K) (hd : pr.defs[41]? = some (.code 4 4 i41) ∨ ∃ es, pr.defs[41]? = some (.memo 4 4 i41 es) ∧ MemOk pr 4 4 i41 es) : DfOk gt pr (gs P w K) 41 P w K mg base :=
  df_of (d := d41) (C := c41) (Nl := N41) (ps := ["chart", "lot", "step", "value"]) (n := 80) c rfl rfl rfl rfl b41 sc41 rfl rfl hd h41 rfl rfl rfl (fun _ => rfl) (fun h => absurd h (by decide))
theorem df42 {pr : Pr} (c : He.SaysD [] fnL K) (hd : pr.defs[42]? = some (.code 2 2 i42) ∨ ∃ es, pr.defs[42]? = some (.memo 2 2 i42 es) ∧ MemOk pr 2 2 i42 es) : DfOk gt pr (gs P w K) 42 P w K mg base :=
  df_of (d := d42) (C := c42) (Nl := N42) (ps := ["chart", "lot"]) (n := 80) c rfl rfl rfl rfl b42 sc42 rfl rfl hd h42 rfl rfl rfl (fun _ => rfl) (fun h => absurd h (by decide))
theorem df43 {pr : Pr} (c : He.SaysD [] fnL K) (hd : pr.defs[43]? = some (.code 3 3 i43) ∨ ∃ es, pr.defs[43]? = some (.memo 3 3 i43 es) ∧ MemOk pr 3 3 i43 es) : DfOk gt pr (gs P w K) 43 P w K mg base :=
  df_of (d := d43) (C := c43) (Nl := N43) (ps := ["chart", "lot", "value"]) (n := 80) c rfl rfl rfl rfl b43 sc43 rfl rfl hd h43 rfl rfl rfl (fun _ => rfl) (fun h => absurd h (by decide))
theorem df45 {pr : Pr} (c : He.SaysD [] fnL K) (hd : pr.defs[45]? = some (.code 2 2 i45) ∨ ∃ es, pr.defs[45]? = some (.memo 2 2 i45 es) ∧ MemOk pr 2 2 i45 es) : DfOk gt pr (gs P w K) 45 P w K mg base :=
  df_of (d := d45) (C := c45) (Nl := N45) (ps := ["_law_spins_here", "_law_items"]) (n := 80) c rfl rfl rfl rfl b45 sc45 rfl rfl hd h45 rfl rfl rfl (fun _ => rfl) (fun h => absurd h (by decide))
theorem h46g : (cmN gt 80).Ss c46 (defBody s46) = some i46 := by kernel_rfl
theorem df46 {pr : Pr} (c : He.SaysD [] fnL K) (hd : pr.defs[46]? = some (.code 1 2 i46) ∨ ∃ es, pr.defs[46]? = some (.memo 1 2 i46 es) ∧ MemOk pr 1 2 i46 es) : DfOk gt pr (gs P w K) 46 P w K mg base :=
  df_of (d := d46) (C := c46) (Nl := N46) (ps := ["_law_call"]) (n := 80) c rfl rfl rfl rfl b46 sc46 rfl rfl hd h46g rfl rfl rfl (fun _ => rfl) (fun h => absurd h (by decide))
theorem df47 {pr : Pr} (c : He.SaysD [] fnL K) (hd : pr.defs[47]? = some (.code 1 13 i47) ∨ ∃ es, pr.defs[47]? = some (.memo 1 13 i47 es) ∧ MemOk pr 1 13 i47 es) (l47 : LamF base mg tf K "_law_right") : DfOk gt pr (gs P w K) 47 P w K mg base :=
  df_of (d := d47) (C := c47) (Nl := N47) (ps := ["_law_spins_here"]) (n := 80) c rfl rfl rfl rfl b47 sc47 rfl rfl hd h47 rfl rfl rfl (fun _ => rfl) (fun _ => l47)
theorem df48 {pr : Pr} (c : He.SaysD [] fnL K) (hd : pr.defs[48]? = some (.code 4 4 i48) ∨ ∃ es, pr.defs[48]? = some (.memo 4 4 i48 es) ∧ MemOk pr 4 4 i48 es) : DfOk gt pr (gs P w K) 48 P w K mg base :=
  df_of (d := d48) (C := c48) (Nl := N48) (ps := ["self", "chart", "lot", "start"]) (n := 80) c rfl rfl rfl rfl b48 sc48 rfl rfl hd h48 rfl rfl rfl (fun _ => rfl) (fun h => absurd h (by decide))
theorem df49 {pr : Pr} (c : He.SaysD [] fnL K) (hd : pr.defs[49]? = some (.code 2 4 i49) ∨ ∃ es, pr.defs[49]? = some (.memo 2 4 i49 es) ∧ MemOk pr 2 4 i49 es) : DfOk gt pr (gs P w K) 49 P w K mg base :=
  df_of (d := d49) (C := c49) (Nl := N49) (ps := ["self", "at"]) (n := 80) c rfl rfl rfl rfl b49 sc49 rfl rfl hd h49 rfl rfl rfl (fun _ => rfl) (fun h => absurd h (by decide))
theorem df50 {pr : Pr} (c : He.SaysD [] fnL K) (hd : pr.defs[50]? = some (.code 2 2 i50) ∨ ∃ es, pr.defs[50]? = some (.memo 2 2 i50 es) ∧ MemOk pr 2 2 i50 es) : DfOk gt pr (gs P w K) 50 P w K mg base :=
  df_of (d := d50) (C := c50) (Nl := N50) (ps := ["self", "at"]) (n := 80) c rfl rfl rfl rfl b50 sc50 rfl rfl hd h50 rfl rfl rfl (fun _ => rfl) (fun h => absurd h (by decide))
theorem df51 {pr : Pr} (c : He.SaysD [] fnL K) (hd : pr.defs[51]? = some (.code 1 5 i51) ∨ ∃ es, pr.defs[51]? = some (.memo 1 5 i51 es) ∧ MemOk pr 1 5 i51 es) : DfOk gt pr (gs P w K) 51 P w K mg base :=
  df_of (d := d51) (C := c51) (Nl := N51) (ps := ["self"]) (n := 80) c rfl rfl rfl rfl b51 sc51 rfl rfl hd h51 rfl rfl rfl (fun _ => rfl) (fun h => absurd h (by decide))
theorem df52 {pr : Pr} (c : He.SaysD [] fnL K) (hd : pr.defs[52]? = some (.code 3 7 i52) ∨ ∃ es, pr.defs[52]? = some (.memo 3 7 i52 es) ∧ MemOk pr 3 7 i52 es) : DfOk gt pr (gs P w K) 52 P w K mg base :=
  df_of (d := d52) (C := c52) (Nl := N52) (ps := ["self", "place", "ahead"]) (n := 80) c rfl rfl rfl rfl b52 sc52 rfl rfl hd h52 rfl rfl rfl (fun _ => rfl) (fun h => absurd h (by decide))
theorem df53 {pr : Pr} (c : He.SaysD [] fnL K) (hd : pr.defs[53]? = some (.code 2 10 i53) ∨ ∃ es, pr.defs[53]? = some (.memo 2 10 i53 es) ∧ MemOk pr 2 10 i53 es) : DfOk gt pr (gs P w K) 53 P w K mg base :=
  df_of (d := d53) (C := c53) (Nl := N53) (ps := ["self", "road"]) (n := 80) c rfl rfl rfl rfl b53 sc53 rfl rfl hd h53 rfl rfl rfl (fun _ => rfl) (fun h => absurd h (by decide))
theorem df54 {pr : Pr} (c : He.SaysD [] fnL K) (hd : pr.defs[54]? = some (.code 3 14 i54) ∨ ∃ es, pr.defs[54]? = some (.memo 3 14 i54 es) ∧ MemOk pr 3 14 i54 es) : DfOk gt pr (gs P w K) 54 P w K mg base :=
  df_of (d := d54) (C := c54) (Nl := N54) (ps := ["self", "road", "places"]) (n := 80) c rfl rfl rfl rfl b54 sc54 rfl rfl hd h54 rfl rfl rfl (fun _ => rfl) (fun h => absurd h (by decide))
theorem df55 {pr : Pr} (c : He.SaysD [] fnL K) (hd : pr.defs[55]? = some (.code 2 6 i55) ∨ ∃ es, pr.defs[55]? = some (.memo 2 6 i55 es) ∧ MemOk pr 2 6 i55 es) : DfOk gt pr (gs P w K) 55 P w K mg base :=
  df_of (d := d55) (C := c55) (Nl := N55) (ps := ["self", "index"]) (n := 80) c rfl rfl rfl rfl b55 sc55 rfl rfl hd h55 rfl rfl rfl (fun _ => rfl) (fun h => absurd h (by decide))
theorem th46 {pr : Pr} (c : He.SaysD [] fnL K) (hd : pr.defs[46]? = some (.code 1 2 i46)) (gm : mg "_law_met" = some (.ref (He.ga K "_law_met"))) : ThD gt0 pr (gs P w K) 46 "_law_met" P w K mg base :=
  th_of (d := d46) (C := c46) (Nl := N46) (n := 80) c rfl rfl rfl rfl rfl rfl gm b46 sc46 rfl hd h46 rfl rfl rfl (fun _ => rfl) rfl rfl List.mem_cons_self (by decide +kernel) (by decide +kernel)
end K17
end Rf
set_option maxHeartbeats 4000000
namespace Rf
namespace K17
open PySem PySem.Spec PyProof.Rows L2 LamX RfE
abbrev mC : Nat := 999991
def Lr : Option (List (Fl × List Ob)) := headAt prg 21 1 i47a (start' 13 [.obj 0]) [.spn] mC
def Br (i : Nat) : Bool := brAt Lr (tailAt prg 21 i47b mC) i
theorem len_Lr : lenAt Lr = 7 := by kernel_rfl
end K17
end Rf
set_option maxHeartbeats 4000000
namespace Rf
namespace K17
open PySem PySem.Spec PyProof.Rows L2 LamX RfE
theorem br0 : Br 0 = true := by kernel_rfl
end K17
end Rf
set_option maxHeartbeats 4000000
namespace Rf
namespace K17
open PySem PySem.Spec PyProof.Rows L2 LamX RfE
theorem br1 : Br 1 = true := by kernel_rfl
end K17
end Rf
set_option maxHeartbeats 4000000
namespace Rf
namespace K17
open PySem PySem.Spec PyProof.Rows L2 LamX RfE
theorem br2 : Br 2 = true := by kernel_rfl
end K17
end Rf
set_option maxHeartbeats 4000000
namespace Rf
namespace K17
open PySem PySem.Spec PyProof.Rows L2 LamX RfE
theorem br3 : Br 3 = true := by kernel_rfl
end K17
end Rf
set_option maxHeartbeats 4000000
namespace Rf
namespace K17
open PySem PySem.Spec PyProof.Rows L2 LamX RfE
theorem br4 : Br 4 = true := by kernel_rfl
end K17
end Rf
set_option maxHeartbeats 4000000
namespace Rf
namespace K17
open PySem PySem.Spec PyProof.Rows L2 LamX RfE
theorem br5 : Br 5 = true := by kernel_rfl
end K17
end Rf
set_option maxHeartbeats 4000000
namespace Rf
namespace K17
open PySem PySem.Spec PyProof.Rows L2 LamX RfE
theorem br6 : Br 6 = true := by kernel_rfl
end K17
end Rf
set_option maxHeartbeats 4000000
namespace Rf
namespace K17
open PySem PySem.Spec PyProof.Rows L2 LamX RfE
theorem right : (callF prg 22 47 [.obj 0] [.spn]).all (fun q => q = (.bl true, [.spn])) fun _ _ _ _ => False :=
  right_of (pr := prg) (k := 21) (np := 1) (ns := 13) (f := 47) (nb := 7) (pre := i47a) (post := i47b) rfl mC (by unfold big; rfl) (by decide) len_Lr fun i hi => by
    match i, hi with
    | 0, _ => exact br0
    | 1, _ => exact br1
    | 2, _ => exact br2
    | 3, _ => exact br3
    | 4, _ => exact br4
    | 5, _ => exact br5
    | 6, _ => exact br6
    | i + 7, hi => omega
end K17
end Rf
set_option maxHeartbeats 4000000
namespace Rf
namespace K17
open PySem PySem.Spec PyProof.Rows L2 LamX RfE
theorem lawR : allE (((evN (prl.cf (callF prl 26) (thunkF prl (callF prl 26)) noAct []) (hbF (prl.cf (callF prl 26) (thunkF prl (callF prl 26)) noAct)) big).Ss i57 (none :: List.replicate (4 - 1) none) []).close 0) = true := by kernel_rfl
end K17
end Rf
set_option maxHeartbeats 4000000
namespace Rf
namespace K17
open PySem PySem.Spec PyProof.Rows L2 LamX RfE
theorem rr16_0t : runB (prg.cf (callF prg 8) (thunkF prg (callF prg 8)) noAct) 1 1 i16 rr16_0 [] = rr16_0r.give [] := by kernel_rfl
theorem rr16_1t : runB (prg.cf (callF prg 8) (thunkF prg (callF prg 8)) noAct) 1 1 i16 rr16_1 [] = rr16_1r.give [] := by kernel_rfl
theorem rr16_2t : runB (prg.cf (callF prg 8) (thunkF prg (callF prg 8)) noAct) 1 1 i16 rr16_2 [] = rr16_2r.give [] := by kernel_rfl
theorem rr16_3t : runB (prg.cf (callF prg 8) (thunkF prg (callF prg 8)) noAct) 1 1 i16 rr16_3 [] = rr16_3r.give [] := by kernel_rfl
theorem rr16_4t : runB (prg.cf (callF prg 8) (thunkF prg (callF prg 8)) noAct) 1 1 i16 rr16_4 [] = rr16_4r.give [] := by kernel_rfl
theorem rr16_5t : runB (prg.cf (callF prg 8) (thunkF prg (callF prg 8)) noAct) 1 1 i16 rr16_5 [] = rr16_5r.give [] := by kernel_rfl
theorem rr16_6t : runB (prg.cf (callF prg 8) (thunkF prg (callF prg 8)) noAct) 1 1 i16 rr16_6 [] = rr16_6r.give [] := by kernel_rfl
theorem rr16_7t : runB (prg.cf (callF prg 8) (thunkF prg (callF prg 8)) noAct) 1 1 i16 rr16_7 [] = rr16_7r.give [] := by kernel_rfl
theorem rr16_8t : runB (prg.cf (callF prg 8) (thunkF prg (callF prg 8)) noAct) 1 1 i16 rr16_8 [] = rr16_8r.give [] := by kernel_rfl
theorem rr16_ok : MemOk prg 1 1 i16 rr16 := fun us lo r h => by
  unfold rr16 at h
  simp only [List.mem_cons, Prod.mk.injEq, List.not_mem_nil, or_false] at h
  rcases h with ⟨rfl, rfl, rfl⟩ | ⟨rfl, rfl, rfl⟩ | ⟨rfl, rfl, rfl⟩ | ⟨rfl, rfl, rfl⟩ | ⟨rfl, rfl, rfl⟩ | ⟨rfl, rfl, rfl⟩ | ⟨rfl, rfl, rfl⟩ | ⟨rfl, rfl, rfl⟩ | ⟨rfl, rfl, rfl⟩
  · exact ⟨by decide +kernel, rr16_0t⟩
  · exact ⟨by decide +kernel, rr16_1t⟩
  · exact ⟨by decide +kernel, rr16_2t⟩
  · exact ⟨by decide +kernel, rr16_3t⟩
  · exact ⟨by decide +kernel, rr16_4t⟩
  · exact ⟨by decide +kernel, rr16_5t⟩
  · exact ⟨by decide +kernel, rr16_6t⟩
  · exact ⟨by decide +kernel, rr16_7t⟩
  · exact ⟨by decide +kernel, rr16_8t⟩
theorem rr34_0t : runB (prg.cf (callF prg 8) (thunkF prg (callF prg 8)) noAct) 2 2 i34 rr34_0 [] = rr34_0r.give [] := by kernel_rfl
theorem rr34_1t : runB (prg.cf (callF prg 8) (thunkF prg (callF prg 8)) noAct) 2 2 i34 rr34_1 [] = rr34_1r.give [] := by kernel_rfl
theorem rr34_2t : runB (prg.cf (callF prg 8) (thunkF prg (callF prg 8)) noAct) 2 2 i34 rr34_2 [] = rr34_2r.give [] := by kernel_rfl
theorem rr34_3t : runB (prg.cf (callF prg 8) (thunkF prg (callF prg 8)) noAct) 2 2 i34 rr34_3 [] = rr34_3r.give [] := by kernel_rfl
theorem rr34_4t : runB (prg.cf (callF prg 8) (thunkF prg (callF prg 8)) noAct) 2 2 i34 rr34_4 [] = rr34_4r.give [] := by kernel_rfl
theorem rr34_5t : runB (prg.cf (callF prg 8) (thunkF prg (callF prg 8)) noAct) 2 2 i34 rr34_5 [] = rr34_5r.give [] := by kernel_rfl
theorem rr34_6t : runB (prg.cf (callF prg 8) (thunkF prg (callF prg 8)) noAct) 2 2 i34 rr34_6 [] = rr34_6r.give [] := by kernel_rfl
theorem rr34_7t : runB (prg.cf (callF prg 8) (thunkF prg (callF prg 8)) noAct) 2 2 i34 rr34_7 [] = rr34_7r.give [] := by kernel_rfl
theorem rr34_8t : runB (prg.cf (callF prg 8) (thunkF prg (callF prg 8)) noAct) 2 2 i34 rr34_8 [] = rr34_8r.give [] := by kernel_rfl
theorem rr34_9t : runB (prg.cf (callF prg 8) (thunkF prg (callF prg 8)) noAct) 2 2 i34 rr34_9 [] = rr34_9r.give [] := by kernel_rfl
theorem rr34_10t : runB (prg.cf (callF prg 8) (thunkF prg (callF prg 8)) noAct) 2 2 i34 rr34_10 [] = rr34_10r.give [] := by kernel_rfl
theorem rr34_11t : runB (prg.cf (callF prg 8) (thunkF prg (callF prg 8)) noAct) 2 2 i34 rr34_11 [] = rr34_11r.give [] := by kernel_rfl
theorem rr34_12t : runB (prg.cf (callF prg 8) (thunkF prg (callF prg 8)) noAct) 2 2 i34 rr34_12 [] = rr34_12r.give [] := by kernel_rfl
theorem rr34_ok : MemOk prg 2 2 i34 rr34 := fun us lo r h => by
  unfold rr34 at h
  simp only [List.mem_cons, Prod.mk.injEq, List.not_mem_nil, or_false] at h
  rcases h with ⟨rfl, rfl, rfl⟩ | ⟨rfl, rfl, rfl⟩ | ⟨rfl, rfl, rfl⟩ | ⟨rfl, rfl, rfl⟩ | ⟨rfl, rfl, rfl⟩ | ⟨rfl, rfl, rfl⟩ | ⟨rfl, rfl, rfl⟩ | ⟨rfl, rfl, rfl⟩ | ⟨rfl, rfl, rfl⟩ | ⟨rfl, rfl, rfl⟩ | ⟨rfl, rfl, rfl⟩ | ⟨rfl, rfl, rfl⟩ | ⟨rfl, rfl, rfl⟩
  · exact ⟨by decide +kernel, rr34_0t⟩
  · exact ⟨by decide +kernel, rr34_1t⟩
  · exact ⟨by decide +kernel, rr34_2t⟩
  · exact ⟨by decide +kernel, rr34_3t⟩
  · exact ⟨by decide +kernel, rr34_4t⟩
  · exact ⟨by decide +kernel, rr34_5t⟩
  · exact ⟨by decide +kernel, rr34_6t⟩
  · exact ⟨by decide +kernel, rr34_7t⟩
  · exact ⟨by decide +kernel, rr34_8t⟩
  · exact ⟨by decide +kernel, rr34_9t⟩
  · exact ⟨by decide +kernel, rr34_10t⟩
  · exact ⟨by decide +kernel, rr34_11t⟩
  · exact ⟨by decide +kernel, rr34_12t⟩
theorem rr19_0t : runB (prg.cf (callF prg 14) (thunkF prg (callF prg 14)) noAct) 3 8 i19 rr19_0 [] = rr19_0r.give [] := by kernel_rfl
theorem rr19_ok : MemOk prg 3 8 i19 rr19 := fun us lo r h => by
  unfold rr19 at h
  simp only [List.mem_cons, Prod.mk.injEq, List.not_mem_nil, or_false] at h
  rcases h with ⟨rfl, rfl, rfl⟩
  · exact ⟨by decide +kernel, rr19_0t⟩
theorem rr22_0t : runB (prg.cf (callF prg 14) (thunkF prg (callF prg 14)) noAct) 3 10 i22 rr22_0 [] = rr22_0r.give [] := by kernel_rfl
theorem rr22_ok : MemOk prg 3 10 i22 rr22 := fun us lo r h => by
  unfold rr22 at h
  simp only [List.mem_cons, Prod.mk.injEq, List.not_mem_nil, or_false] at h
  rcases h with ⟨rfl, rfl, rfl⟩
  · exact ⟨by decide +kernel, rr22_0t⟩
theorem rr23_0t : runB (prg.cf (callF prg 14) (thunkF prg (callF prg 14)) noAct) 3 9 i23 rr23_0 [] = rr23_0r.give [] := by kernel_rfl
theorem rr23_ok : MemOk prg 3 9 i23 rr23 := fun us lo r h => by
  unfold rr23 at h
  simp only [List.mem_cons, Prod.mk.injEq, List.not_mem_nil, or_false] at h
  rcases h with ⟨rfl, rfl, rfl⟩
  · exact ⟨by decide +kernel, rr23_0t⟩
theorem rr29_0t : runB (prg.cf (callF prg 14) (thunkF prg (callF prg 14)) noAct) 2 10 i29 rr29_0 [] = rr29_0r.give [] := by kernel_rfl
theorem rr29_ok : MemOk prg 2 10 i29 rr29 := fun us lo r h => by
  unfold rr29 at h
  simp only [List.mem_cons, Prod.mk.injEq, List.not_mem_nil, or_false] at h
  rcases h with ⟨rfl, rfl, rfl⟩
  · exact ⟨by decide +kernel, rr29_0t⟩
end K17
end Rf
set_option maxHeartbeats 4000000
namespace Rf
namespace K17
open PySem PySem.Spec PyProof.Rows L2 LamX RfE

end K17
end Rf
set_option maxHeartbeats 4000000
namespace Rf
namespace K17
open PySem PySem.Spec PyProof.Rows L2 LamX RfE
variable {P : Program} {w : World} {K : Frag'} {mg : Str → Option Value} {base h : Heap}
theorem ex_parts {P : Program} {K : Frag'} (e : exC P K = true) : exB nm gt prg P K = true ∧ exB nm gt prl P K = true ∧ exB nmS gtS prS P K = true ∧ ndT (Tt K) = true ∧ (He.Fa.glo "_law_spins").ok K = true ∧ (He.Fa.glo "law").ok K = true ∧ clB P K = true := by
  obtain ⟨e1, e⟩ := He.ba e
  have e2 : exB nm gt prl P K = true := e1
  obtain ⟨e3, e⟩ := He.ba e
  obtain ⟨e4, e⟩ := He.ba e
  obtain ⟨e5, e⟩ := He.ba e
  obtain ⟨e6, e⟩ := He.ba e
  obtain ⟨e7, e8⟩ := He.ba e
  exact ⟨e1, e2, e3, e4, e5, e6, e7⟩
theorem cl_parts {P : Program} {K : Frag'} (e : clB P K = true) : supFull P K "InvalidNumber" "InvalidNumber.__init__" = true ∧ fldB K "InvalidNumber" "given" = true := by
  simpa [clB, and_assoc] using e
theorem flG {K : Frag'} (e : clB P K = true) {i : Nat} {f : Str} (h : fldP i f = true) : FldF K (He.ga K (nm.c i)) f := by
  have q := cl_parts e
  unfold fldP at h
  simp only [Bool.or_eq_true, Bool.and_eq_true] at h
  obtain ⟨h1, h2⟩ := h
  · rw [Nat.eq_of_beq_eq_true h1, eq_of_beq h2]
    exact fldB_ok q.2
theorem hc1 (c : SaysR fnL tf sv (exC PP) h K) (X : K.In h) (Gm : h.Ns mainGlobals mg) (su : mg "super" = none) : ∀ x j f, gt.cl1.lookup x = some (j, f) → ∀ (kr : Nat) (Y : Cx), Y.prog = PP → Y.w = w → Y.K = K → Y.mg = mg → Y.base = base → Gl Y x → Room kr Y.A → MkFld Y x (He.ga K (nm.c j)) f := fun x j f hx kr Y y1 _ y3 y4 _ gl room => by
  have q := cl_parts (ex_parts c.more).2.2.2.2.2.2
  have hm := lookup_mem' hx
  have hl : gt.cl1 = [(("InvalidNumber" : Str), ((3 : Nat), ("given" : Str)))] := rfl
  rw [hl] at hm
  simp only [List.mem_cons, List.not_mem_nil, or_false, Prod.mk.injEq] at hm
  rcases hm with ⟨rfl, rfl, rfl⟩
  · exact mkF_of (kr := kr) q.1 (c.sup 0 _ rfl) rfl txIInvalidNumber X Gm su y1 y3 y4 gl room (by decide +kernel)
theorem dfS (c : He.SaysD [] fnL K) : DfOk gtS prS (gsOf nmS Tt P w K) 0 P w K mg base := by
  obtain ⟨fd, F⟩ := c.def_ 44 (d := d44) rfl
  have F : FunD K d44.name d44.qual d44.params d44.body d44.scope [] [] ((gsOf nmS Tt P w K).ad 0) fd := F
  have b := FunD.bindsN F b44
  refine ⟨fd, ["_law_spins_here", "_law_total"], b, F.kp, .inr ⟨c44, d44.name, d44.qual, d44.body, fd.code, ?_⟩⟩
  obtain ⟨oc, od, dV, kV, doc, pm, an, cdv, ct, osl, rfl, lk, hcd, hD, hK⟩ := F.ex
  obtain rfl : dV = .none := by
    rcases hD with ⟨_, q⟩ | ⟨q, _⟩
    · exact q
    · exact absurd rfl q
  exact ⟨⟨d44.params, d44.scope, .none, kV, doc, pm, ct, oc, an, od, osl, N44, 2, 5, iSpin, 80, rfl, lk, hcd, sc44, rfl, rfl, .inl rfl, h44, rfl, rfl⟩, rfl, fun _ => rfl, fun h => absurd h (by decide)⟩
theorem stS (c : He.SaysD [] fnL K) (X : K.In h) (Gm : h.Ns mainGlobals mg) (e : exC P K = true) : StOk gtS gtS prS (gsOf nmS Tt P w K) P w K mg base :=
  st_of (N := nmS) (ex_parts e).2.2.1 X Gm gtS rfl (fun i f h => nomatch h) (fun p hp => nomatch hp) (fun x j f h => nomatch h)
    (fun f hf => match f, hf with | 0, _ => dfS c) (fun x f h => nomatch h) (fun x f n y h => nomatch h) (fun f n y h => by cases h) (fun x f dus h => nomatch h) (fun j F => ⟨fun h => h.elim, fun ⟨_, _, _, _, _, h⟩ => nomatch h⟩) (fun np ib j h => nomatch h)
theorem spin_all_levels (c : He.SaysD [] fnL K) (X : K.In h) (Gm : h.Ns mainGlobals mg) (e : exC P K = true) {pr : Pr} (hd : pr.defs[44]? = some .spin) : DfOk gt pr (gs P w K) 44 P w K mg base := by
  obtain ⟨fd, ps, F, b, kp⟩ := fn_lev (k := 0) (stS (w := w) (base := base) c X Gm e) (fun j hj => md_lev (stS c X Gm e) j) (f := 0) (by decide)
  exact ⟨fd, ps, b, kp, .inl fun k2 => spin_of (g := gs P w K) (f := 44) (g1 := gsOf nmS Tt P w K) rfl rfl F rfl hd spin_all k2⟩
theorem st_prg (c : SaysR fnL tf sv (exC PP) h K) (X : K.In h) (Gm : h.Ns mainGlobals mg) (l47 : LamF base mg tf K "_law_right") : StOk gt0 gt prg (gs PP w K) PP w K mg base :=
  have e : exC PP K = true := c.more
  st_of (N := nm) (ex_parts e).1 X Gm gt0 rfl (fun i f h => flG (ex_parts e).2.2.2.2.2.2 h) (by decide +kernel) (hc1 c X Gm (ex_nb (ex_parts e).1 X Gm (by decide +kernel)))
    (fun f hf => have c' := c.d
    match f, hf with
    | 0, _ => df0 c' (.inl rfl)
    | 1, _ => df1 c' (.inl rfl)
    | 2, _ => df2 c' (.inl rfl)
    | 3, _ => df3 c' (.inl rfl)
    | 4, _ => df4 c' (.inl rfl)
    | 5, _ => df5 c' (.inl rfl)
    | 6, _ => df6 c' (.inl rfl)
    | 7, _ => df7 c' (.inl rfl)
    | 8, _ => df8 c' (.inl rfl)
    | 9, _ => df9 c' (.inl rfl)
    | 10, _ => df10 c' (.inl rfl)
    | 11, _ => df11 c' (.inl rfl)
    | 12, _ => df12 c' (.inl rfl)
    | 13, _ => df13 c' (.inl rfl)
    | 14, _ => df14 c' (.inl rfl)
    | 15, _ => df15 c' (.inl rfl)
    | 16, _ => df16 c' (.inr ⟨rr16, rfl, rr16_ok⟩)
    | 17, _ => df17 c' (.inl rfl)
    | 18, _ => df18 c' (.inl rfl)
    | 19, _ => df19 c' (.inr ⟨rr19, rfl, rr19_ok⟩)
    | 20, _ => df20 c' (.inl rfl)
    | 21, _ => df21 c' (.inl rfl)
    | 22, _ => df22 c' (.inr ⟨rr22, rfl, rr22_ok⟩)
    | 23, _ => df23 c' (.inr ⟨rr23, rfl, rr23_ok⟩)
    | 24, _ => df24 c' (.inl rfl)
    | 25, _ => df25 c' (.inl rfl)
    | 26, _ => df26 c' (.inl rfl)
    | 27, _ => df27 c' (.inl rfl)
    | 28, _ => df28 c' (.inl rfl)
    | 29, _ => df29 c' (.inr ⟨rr29, rfl, rr29_ok⟩)
    | 30, _ => df30 c' (.inl rfl)
    | 31, _ => df31 c' (.inl rfl)
    | 32, _ => df32 c' (.inl rfl)
    | 33, _ => df33 c' (.inl rfl)
    | 34, _ => df34 c' (.inr ⟨rr34, rfl, rr34_ok⟩)
    | 35, _ => df35 c' (.inl rfl)
    | 36, _ => df36 c' (.inl rfl)
    | 37, _ => df37 c' (.inl rfl)
    | 38, _ => df38 c' (.inl rfl)
    | 39, _ => df39 c' (.inl rfl)
    | 40, _ => df40 c' (.inl rfl)
    | 41, _ => df41 c' (.inl rfl)
    | 42, _ => df42 c' (.inl rfl)
    | 43, _ => df43 c' (.inl rfl)
    | 44, _ => spin_all_levels c.d X Gm e rfl
    | 45, _ => df45 c' (.inl rfl)
    | 46, _ => df46 c' (.inl rfl)
    | 47, _ => df47 c' (.inl rfl) l47
    | 48, _ => df48 c' (.inl rfl)
    | 49, _ => df49 c' (.inl rfl)
    | 50, _ => df50 c' (.inl rfl)
    | 51, _ => df51 c' (.inl rfl)
    | 52, _ => df52 c' (.inl rfl)
    | 53, _ => df53 c' (.inl rfl)
    | 54, _ => df54 c' (.inl rfl)
    | 55, _ => df55 c' (.inl rfl)
    | n + 56, hf => absurd hf (by show ¬ n + 56 < 56; omega)) (fun x f hx => by
      obtain ⟨rfl, rfl⟩ : x = "_law_met" ∧ f = 46 := by
        have := List.mem_singleton.mp (lookup_mem' hx)
        exact ⟨congrArg Prod.fst this, congrArg Prod.snd this⟩
      exact th46 c.d rfl (ex_th (ex_parts e).1 X Gm hx).1)
    (fun x f n y h => nomatch h) (fun f n y h => by cases h) (fun x f dus h => nomatch h) (fun j F => Iff.rfl) (fun np ib j h => by
      have h : (np, ib, j) ∈ lamT := h
      unfold lamT at h
      simp only [List.mem_cons, List.not_mem_nil, or_false, Prod.mk.injEq] at h
      rcases h with ⟨rfl, rfl, rfl⟩ | ⟨rfl, rfl, rfl⟩ | ⟨rfl, rfl, rfl⟩
      · rfl
      · rfl
      · rfl)
theorem df_yes (c : SaysR fnL tf sv (exC PP) h K) (X : K.In h) (Gm : h.Ns mainGlobals mg) (l47 : LamF base mg tf K "_law_right") : DfOk gt prl (gs PP w K) 47 PP w K mg base := by
  obtain ⟨fd, ps, F, b, kp⟩ := fn_lev (k := 21) (st_prg (w := w) (base := base) c X Gm l47) (fun j hj => md_lev (st_prg c X Gm l47) j) (f := 47) (by decide)
  exact ⟨fd, ps, b, kp, .inl fun k2 => yes_of (k := 22) (lo := 21) F rfl (by decide) right k2⟩
theorem st_prl (c : SaysR fnL tf sv (exC PP) h K) (X : K.In h) (Gm : h.Ns mainGlobals mg) (l47 : LamF base mg tf K "_law_right") : StOk gt0 gt prl (gs PP w K) PP w K mg base :=
  have e : exC PP K = true := c.more
  st_of (N := nm) (ex_parts e).2.1 X Gm gt0 rfl (fun i f h => flG (ex_parts e).2.2.2.2.2.2 h) (by decide +kernel) (hc1 c X Gm (ex_nb (ex_parts e).1 X Gm (by decide +kernel)))
    (fun f hf => have c' := c.d
    match f, hf with
    | 0, _ => df0 c' (.inl rfl)
    | 1, _ => df1 c' (.inl rfl)
    | 2, _ => df2 c' (.inl rfl)
    | 3, _ => df3 c' (.inl rfl)
    | 4, _ => df4 c' (.inl rfl)
    | 5, _ => df5 c' (.inl rfl)
    | 6, _ => df6 c' (.inl rfl)
    | 7, _ => df7 c' (.inl rfl)
    | 8, _ => df8 c' (.inl rfl)
    | 9, _ => df9 c' (.inl rfl)
    | 10, _ => df10 c' (.inl rfl)
    | 11, _ => df11 c' (.inl rfl)
    | 12, _ => df12 c' (.inl rfl)
    | 13, _ => df13 c' (.inl rfl)
    | 14, _ => df14 c' (.inl rfl)
    | 15, _ => df15 c' (.inl rfl)
    | 16, _ => df16 c' (.inl rfl)
    | 17, _ => df17 c' (.inl rfl)
    | 18, _ => df18 c' (.inl rfl)
    | 19, _ => df19 c' (.inl rfl)
    | 20, _ => df20 c' (.inl rfl)
    | 21, _ => df21 c' (.inl rfl)
    | 22, _ => df22 c' (.inl rfl)
    | 23, _ => df23 c' (.inl rfl)
    | 24, _ => df24 c' (.inl rfl)
    | 25, _ => df25 c' (.inl rfl)
    | 26, _ => df26 c' (.inl rfl)
    | 27, _ => df27 c' (.inl rfl)
    | 28, _ => df28 c' (.inl rfl)
    | 29, _ => df29 c' (.inl rfl)
    | 30, _ => df30 c' (.inl rfl)
    | 31, _ => df31 c' (.inl rfl)
    | 32, _ => df32 c' (.inl rfl)
    | 33, _ => df33 c' (.inl rfl)
    | 34, _ => df34 c' (.inl rfl)
    | 35, _ => df35 c' (.inl rfl)
    | 36, _ => df36 c' (.inl rfl)
    | 37, _ => df37 c' (.inl rfl)
    | 38, _ => df38 c' (.inl rfl)
    | 39, _ => df39 c' (.inl rfl)
    | 40, _ => df40 c' (.inl rfl)
    | 41, _ => df41 c' (.inl rfl)
    | 42, _ => df42 c' (.inl rfl)
    | 43, _ => df43 c' (.inl rfl)
    | 44, _ => spin_all_levels c.d X Gm e rfl
    | 45, _ => df45 c' (.inl rfl)
    | 46, _ => df46 c' (.inl rfl)
    | 47, _ => df_yes c X Gm l47
    | 48, _ => df48 c' (.inl rfl)
    | 49, _ => df49 c' (.inl rfl)
    | 50, _ => df50 c' (.inl rfl)
    | 51, _ => df51 c' (.inl rfl)
    | 52, _ => df52 c' (.inl rfl)
    | 53, _ => df53 c' (.inl rfl)
    | 54, _ => df54 c' (.inl rfl)
    | 55, _ => df55 c' (.inl rfl)
    | n + 56, hf => absurd hf (by show ¬ n + 56 < 56; omega)) (fun x f hx => by
      obtain ⟨rfl, rfl⟩ : x = "_law_met" ∧ f = 46 := by
        have := List.mem_singleton.mp (lookup_mem' hx)
        exact ⟨congrArg Prod.fst this, congrArg Prod.snd this⟩
      exact th46 c.d rfl (ex_th (ex_parts e).1 X Gm hx).1)
    (fun x f n y h => nomatch h) (fun f n y h => by cases h) (fun x f dus h => nomatch h) (fun j F => Iff.rfl) (fun np ib j h => by
      have h : (np, ib, j) ∈ lamT := h
      unfold lamT at h
      simp only [List.mem_cons, List.not_mem_nil, or_false, Prod.mk.injEq] at h
      rcases h with ⟨rfl, rfl, rfl⟩ | ⟨rfl, rfl, rfl⟩ | ⟨rfl, rfl, rfl⟩
      · rfl
      · rfl
      · rfl)
theorem txS : ∃ (px p0 p1 p2 p3 p4 p5 p6 p7 p8 p9 q1 q2 q3 q4 q5 q6 q7 : Pos) (k1 k2 : Nat), defBody s56 = .Assign [.Name "_law_cell" px] (.IfExp (.Compare (.Name "_law_spot" p1) [.Lt] [.Call (.Name "len" p2) [.Name "_law_script" p3] [] p4] p5) (.Call (.Name "int" p6) [.Subscript (.Name "_law_script" p7) (.Name "_law_spot" p8) p9] [] q1) (.BinOp (.BinOp (.Constant (.int 307) k1 q2) .Mult (.Name "_law_spot" q3) q4) .Add (.Constant (.int 83) k2 q5) q6) q7) p0 :: (defBody s56).drop 1 := ⟨_, _, _, _, _, _, _, _, _, _, _, _, _, _, _, _, _, _, _, _, rfl⟩
theorem fn_spins (c : SaysR fnL tf sv (exC PP) h K) (X : K.In h) (Gm : h.Ns mainGlobals mg) (l47 : LamF base mg tf K "_law_right") : ∃ fd, FnG PP w K mg base (L2.CX PP w) (4 * 26) (He.ga K "_law_spins") fd ["_law_script", "_law_spot"] (spS (gs PP w K)) ∧ L2.Binds K fd ["_law_script", "_law_spot"] [] ∧ PySem.W.keepIn K (.ref (He.ga K "_law_spins")) = true := by
  obtain ⟨fd, F⟩ := c.d.def_ 56 (d := d56) rfl
  have F : FunD K d56.name d56.qual d56.params d56.body d56.scope [] [] (He.ga K "_law_spins") fd := F
  have b := FunD.bindsN F b56
  have kp := F.kp
  have St := st_prg (w := w) (base := base) c X Gm l47
  have nb : ∀ x, x ∈ gt.nb → mg x = none := St.nb
  obtain ⟨px, p0, p1, p2, p3, p4, p5, p6, p7, p8, p9, q1, q2, q3, q4, q5, q6, q7, k1, k2, tx⟩ := txS
  obtain ⟨oc, od, dV, kV, doc, pm, an, cdv, ct, osl, rfl, lk, hcd, hD, hK⟩ := F.ex
  have lk : K.lookup (He.ga K "_law_spins") = some ⟨oc, od, .func (PySem.W.fnOf d56.name d56.qual d56.params (defBody s56) d56.scope dV kV doc pm an cdv ct), osl⟩ := lk
  refine ⟨_, ?_, b, kp⟩
  show FnG _ _ _ _ _ _ _ _ (PySem.W.fnOf d56.name d56.qual d56.params (defBody s56) d56.scope dV kV doc pm an cdv ct) _ _
  rw [tx] at lk ⊢
  exact (spins_of (k := 25) (n := 80) (nn := 30) (C := c56) (G := gt) (pr := prg) lk hcd sc56 (md_lev St 25) rfl rfl rfl (fun _ => rfl) rfl h56r (fun _ => rfl) rfl
    (fun Y y1 y2 y3 y4 y5 gA un hc hN hs => by
      have gl : ∀ y : Str, glB d56.scope y = true → Gl Y y := fun y hy => (gl_by (by rw [hs]; exact hy)).1
      refine (pe_cell gA un hc rfl rfl (gl _ (by decide +kernel)) (by rw [y4]; exact nb _ (by decide +kernel)) (gl _ (by decide +kernel)) (by rw [y4]; exact nb _ (by decide +kernel)) (by rw [hN] <;> rfl) (by rw [hN] <;> rfl) (by rw [hs]; exact .inl (by decide +kernel)) (by rw [hs]; exact .inl (by decide +kernel)) (by decide +kernel) (by decide +kernel) (by decide +kernel) (by decide +kernel)).of fun σ H Q ⟨a, ns, j, e1, e2, e3, e4, e5, e6⟩ => ?_
      exact ⟨a, ns, j, e1, e2, e3, e4, e5, by decide, e6⟩)
    (fun x j h0 h1 => spins_rest x j h0 h1)).mono (by decide) fun _ _ _ _ z => z
theorem fn_law (c : SaysR fnL tf sv (exC PP) h K) (X : K.In h) (Gm : h.Ns mainGlobals mg) : ∃ fd, (∀ (s : Shared) (u : Value), BindsTo s fd ⟨[u], []⟩ [("_law_script", u)]) ∧ ∀ base : Heap, K.In base → base.Ns mainGlobals mg → LamF base mg tf K "_law_right" → FnG PP w K mg base (L2.CX PP w) (4 * 26 + 4) (He.ga K "law") fd ["_law_script"] (spLaw (gs PP w K)) := by
  obtain ⟨fd, F⟩ := c.d.def_ 57 (d := d57) rfl
  have F : FunD K d57.name d57.qual d57.params d57.body d57.scope [] [] (He.ga K "law") fd := F
  refine ⟨fd, fun s u => FunD.bindsA F b57 s [u] rfl, fun base _ _ l47 => ?_⟩
  obtain ⟨oc, od, dV, kV, doc, pm, an, cdv, ct, osl, rfl, lk, hcd, hD, hK⟩ := F.ex
  obtain ⟨fdS, FS, bS, kS⟩ := fn_spins (w := w) (base := base) c X Gm l47
  have St := st_prl (w := w) (base := base) c X Gm l47
  have nb : ∀ x, x ∈ gt.nb → mg x = none := St.nb
  exact law_of (k := 26) (n := 80) (nn := big) (ns := 4) (C := c57) (N := N57) (ib := i57) (G := gt) (pr := prl) lk hcd sc57 rfl (md_lev St 26) rfl rfl rfl rfl rfl rfl (fun e i h => h) h57
    (fun h => absurd h (by decide))
    FS bS kS (He.glo_ok X Gm (ex_parts c.more).2.2.2.2.1) (nb _ (by decide +kernel)) (nb _ (by decide +kernel)) (nb _ (by decide +kernel))
    (fun y hy => by rcases hy with rfl | rfl | rfl | rfl <;> decide +kernel) (by decide +kernel) (by decide +kernel) (by decide +kernel)
    lawR
end K17
end Rf
set_option maxHeartbeats 4000000
namespace Rf
namespace K17
open PySem PySem.Spec PyProof.Rows L2 LamX RfE
theorem law_at {w : World} {mg : Str → Option Value} {fa : Addr} {h : Heap} {K : Frag'} (c : SaysR fnL tf sv (exC PP) h K) (X : K.In h) (Gm : h.Ns mainGlobals mg) (hf : mg "law" = some (.ref fa)) : LawAtG PySem.Challenge.rw_enoughsteps_k17_errors_of_ways w K (L2.CX PP w) 108 63 "_law_script" mg fa h := by
  have e := hf.symm.trans (He.glo_ok X Gm (ex_parts c.more).2.2.2.2.2.1)
  cases e
  obtain ⟨fd, hb, hF⟩ := fn_law (w := w) c X Gm
  have nd := (ex_parts c.more).2.2.2.1
  refine ⟨fd, tf.map (He.cT K), spLaw (gs PP w K), fun p hp => ?_, fun p hp => ?_, fun p hp => ?_, hb, fun H a ns ht hS => ⟨a, ns, rfl, hS, tabs_of ht, fun _ => rfl⟩, fun base hk hn hT => hF base hk hn (lam_of hT nd (by decide +kernel))⟩
  · obtain ⟨d, hd, rfl⟩ := List.mem_map.mp hp
    exact c.empty d hd
  · obtain ⟨d, hd, rfl⟩ := List.mem_map.mp hp
    exact c.out d hd
  · obtain ⟨d, hd, rfl⟩ := List.mem_map.mp hp
    exact PySem.W.codeHd_of_K X (c.hd d hd)
end K17
end Rf
open PySem PySem.W PySem.Calls PyProof.Rows
theorem PySem.Challenge.cw_enoughsteps_k17_errors_of_ways_holds : PySem.Challenge.rw_enoughsteps_k17_errors_of_ways.Holds := by
  w_on; o_law
  refine HandSHeadRun.head_any (r := OpenLaw.row PySem.Challenge.rw_enoughsteps_k17_errors_of_ways) (q := view (OpenLaw.row PySem.Challenge.rw_enoughsteps_k17_errors_of_ways).prog [85]) (H := Rf.K17.hk) (ob := Rf.K17.ob) (M := 6000) (loose := Rf.K17.loose) (d := HandSHeadRun.topDef (OpenLaw.row PySem.Challenge.rw_enoughsteps_k17_errors_of_ways).prog 85) (kwd := []) Rf.K17.ob_eq
    (by kernel_rfl) (fun s => by kernel_rfl) Rf.K17.run (by kernel_rfl) (by kernel_rfl) (by kernel_rfl) (by rfl) (by first | assumption | decide +kernel) (by decide +kernel) ⟨rfl, rfl, rfl, rfl, rfl, by decide +kernel⟩ ?hw ?hc
  case hw => w_witness2
  case hc =>
    refine Rf.walk_ofG (l := PySem.Challenge.rw_enoughsteps_k17_errors_of_ways) (n := 63) (k := 108) (x := "_law_script") (CX := fun w => L2.CX Rf.K17.PP w) rfl (by decide) (by kernel_rfl) ⟨rfl, by decide, by decide⟩ ?F (fun _ _ _ _ _ ⟨_, _, _, _, _, _, _, _, _, _, _, _, z⟩ => z)
    intro w mg fa h Y Gm hmg0
    obtain ⟨K, KX, c⟩ := Y
    have hmg : mg ("law" : PySem.Str) = some (.ref fa) := by
      have e : (HandSHeadRun.topDef (OpenLaw.row PySem.Challenge.rw_enoughsteps_k17_errors_of_ways).prog 85).name = ("law" : PySem.Str) := by kernel_rfl
      rw [← e]
      exact hmg0
    exact ⟨K, KX, Rf.K17.law_at c KX Gm hmg⟩
